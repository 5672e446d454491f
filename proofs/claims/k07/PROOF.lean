import PyProof.Rows.All
import Wide.All
import OpenK.AllK
import Wide.FinOn
import HandS.ForMost
import HandS.Wide
import KE.SortData
import HandS.Style
import HandS.TupAny
import HandS.More
import KE.DataEq
import HandS.TupLe
import HandS.Conv
import HandS.DeepEq
import KE.KEqDict
import KE.KDictPairs
import HandS.IsInst
import KE.KDictItemsList
import KE.KDictSum
import HandS.Walk
import HandS.Rev
import HandS.Zip
import HandS.Iter
import HandS.Text
import PyProof.Rows.StrRev
import KE.GoesMore
import KE.GoesZip
import HandS.DictTup
import HandS.SortKw
import HandS.Set
import HandS.SetFor
import HandS.Strs
import HandS.Small
import HandS.Finally
import HandS.WordsExc
import HandS.Defaults
import HandS.Head0
import HandS.Head1
import HandS.Head2
import HandS.HeadEnd
import HandS.HeadHook1
import HandS.HeadHook2
import HandS.HeadHook4
import HandS.Codes
import PySem.Challenge.RW_indexwise_k07_whole_for_all_numbers
set_option Elab.async false
set_option linter.all false
set_option maxRecDepth 100000
section
set_option maxRecDepth 100000
namespace PyI
open PySem

abbrev Key := L2.Key

/-- data: lists and dicts by value -/
inductive D where
  | non | bl (b : Bool) | int (i : Int) | str (s : Str)
  | tup (xs : List D) | lst (xs : List D) | dic (kvs : List (Key × D))
  deriving Inhabited

def BIG : Nat := 1000000

/-! ### dicts, generic in the values -/
section
variable {κ α : Type} [DecidableEq κ]
def dget (kvs : List (κ × α)) (k : κ) : Option α := (kvs.find? fun kv => decide (kv.1 = k)).map (·.2)
def dput (kvs : List (κ × α)) (k : κ) (v : α) : List (κ × α) :=
  if (kvs.any fun kv => decide (kv.1 = k)) = true then kvs.map (fun kv => if kv.1 = k then (kv.1, v) else kv) else kvs ++ [(k, v)]
def ddel (kvs : List (κ × α)) (k : κ) : List (κ × α) := kvs.filter fun kv => decide (kv.1 ≠ k)
end
def keyOf : D → Option Key
  | .int i => some (.inl i)
  | .str s => some (.inr s)
  | _ => none
def ofKey : Key → D
  | .inl i => .int i
  | .inr s => .str s

/-! ### equality -/
mutual
def toPy : D → PyData
  | .non => .none
  | .bl b => .bool b
  | .int i => .int i
  | .str s => .str s
  | .tup xs => .tuple (toPys xs)
  | .lst xs => .list (toPys xs)
  | .dic _ => .dict []
def toPys : List D → List PyData
  | [] => []
  | x :: xs => toPy x :: toPys xs
end
mutual
/-- no dict within -/
def plainD : D → Bool
  | .tup xs => plainDs xs
  | .lst xs => plainDs xs
  | .dic _ => false
  | _ => true
def plainDs : List D → Bool
  | [] => true
  | x :: xs => plainD x && plainDs xs
end
mutual
def deq : D → D → Bool
  | .non, .non => true
  | .bl a, .bl b => a == b
  | .bl a, .int j => (if a then 1 else 0) == j
  | .int i, .bl b => i == (if b then 1 else 0)
  | .int i, .int j => i == j
  | .str x, .str y => x == y
  | .lst xs, .lst ys => deqs xs ys
  | .tup xs, .tup ys => deqs xs ys
  | _, _ => false
def deqs : List D → List D → Bool
  | [], [] => true
  | x :: xs, y :: ys => deq x y && deqs xs ys
  | _, _ => false
end
def dicEq (a b : List (Key × D)) : Bool := a.length == b.length && a.all fun kv => match dget b kv.1 with
  | some y => deq kv.2 y
  | none => false
def eqSem : D → D → Option Bool
  | .dic a, .dic b => if (a.all fun kv => plainD kv.2) && (b.all fun kv => plainD kv.2) && (a.all fun kv => decide ((toPy kv.2).depth ≤ 100)) then some (dicEq a b) else none
  | a, b => if plainD a && plainD b && (decide ((toPy a).depth ≤ 100) || decide ((toPy b).depth ≤ 100)) then some (deq a b) else none

/-! ### sorting -/
def sortOk (ds : List D) : Bool := (ds.all fun a => ds.all fun b => PySem.W.alike (toPy a) (toPy b)) &&
  ((ds.all fun a => match a with | .tup (_ :: _) => true | _ => false) || (ds.all fun a => match a with | .tup _ => false | .non => false | _ => true)) &&
  (ds.all fun a => plainD a && decide ((toPy a).depth ≤ 50))
def sortD (ds : List D) : Option (List D) := if sortOk ds then some (ds.mergeSort (PySem.W.dataLe false toPy)) else none

/-! ### operators -/
inductive Op1 | neg | not_ | len | all_ | any_ | sum_ | sorted_ | sitems | srev | tuple_ | list_ | dict_ | int_ | str_ | max_ | min_ | ssort
  deriving DecidableEq
inductive Op2 | add | sub | mul | fdiv | mod | pow | band | shr | eq | ne | lt | le | gt | ge | isin | notin | is_ | isnot | ix | max2 | min2 | join | get1
  deriving DecidableEq
inductive Ty | int | bool | str | tuple | list | dict
  deriving DecidableEq
def ofTy : Ty → D → Bool
  | .int, .int _ => true
  | .int, .bl _ => true
  | .bool, .bl _ => true
  | .str, .str _ => true
  | .tuple, .tup _ => true
  | .list, .lst _ => true
  | .dict, .dic _ => true
  | _, _ => false
def cutL {α : Type} (xs : List α) (lo hi : Option Int) : List α := (xs.drop (HT.sIx xs.length 0 lo)).take (HT.sIx xs.length xs.length hi - HT.sIx xs.length 0 lo)
def boolsD : List D → Option (List Bool)
  | [] => some []
  | .bl b :: r => (boolsD r).map (b :: ·)
  | _ => none
def intsD : List D → Option (List Int)
  | [] => some []
  | .int b :: r => (intsD r).map (b :: ·)
  | _ => none
def strsD : List D → Option (List Str)
  | [] => some []
  | .str b :: r => (strsD r).map (b :: ·)
  | _ => none
def pairsK : List D → Option (List (Key × D))
  | [] => some []
  | .tup [k, v] :: r => match keyOf k, pairsK r with
    | some k, some r => some ((k, v) :: r)
    | _, _ => none
  | _ => none
def mergeD (acc : List (Key × D)) : List (Key × D) → List (Key × D)
  | [] => acc
  | (k, v) :: r => mergeD (dput acc k v) r
def maxI : List Int → Int
  | [] => 0
  | [x] => x
  | x :: r => let m := maxI r; if m > x then m else x
def minI : List Int → Int
  | [] => 0
  | [x] => x
  | x :: r => let m := minI r; if m < x then m else x
def strIn (x y : Str) : Bool := !(Builtin.Str.occurrences y x 0 y.length 1).isEmpty
/-- from the greatest down -/
def leS (a b : Str) : Bool := !decide (b.cps.toList < a.cps.toList)
def revS (ss : List Str) : List Str := (ss.mergeSort leS).reverse
/-- each once -/
def uqS : List Str → List Str
  | [] => []
  | x :: r => if x ∈ r then uqS r else x :: uqS r
def sem1 : Op1 → D → Option D
  | .neg, .int i => some (.int (-i))
  | .not_, .bl b => some (.bl (!b))
  | .len, .str s => if s.length ≤ BIG then some (.int s.length) else none
  | .len, .tup xs => some (.int xs.length)
  | .len, .lst xs => some (.int xs.length)
  | .len, .dic xs => some (.int xs.length)
  | .all_, .lst xs => (boolsD xs).map fun bs => .bl (bs.all id)
  | .any_, .lst xs => (boolsD xs).map fun bs => .bl (bs.any id)
  | .sum_, .lst xs => (intsD xs).map fun is => .int is.sum
  | .sorted_, .lst xs => (sortD xs).map .lst
  | .sorted_, .dic kvs => (sortD (kvs.map fun kv => ofKey kv.1)).map .lst
  | .sitems, .dic kvs => (sortD (kvs.map fun kv => .tup [ofKey kv.1, kv.2])).map .lst
  | .srev, .dic kvs => (strsD (kvs.map fun kv => ofKey kv.1)).map fun ss => .lst ((revS ss).map .str)
  | .tuple_, .lst xs => some (.tup xs)
  | .tuple_, .tup xs => some (.tup xs)
  | .list_, .lst xs => some (.lst xs)
  | .list_, .tup xs => some (.lst xs)
  | .list_, .dic kvs => some (.lst (kvs.map fun kv => ofKey kv.1))
  | .dict_, .dic kvs => some (.dic kvs)
  | .dict_, .lst xs => (pairsK xs).map fun kvs => .dic (mergeD [] kvs)
  | .dict_, .tup xs => (pairsK xs).map fun kvs => .dic (mergeD [] kvs)
  | .int_, .int i => some (.int i)
  | .int_, .bl b => some (.int (if b then 1 else 0))
  | .str_, .int i => if i.natAbs.log2 < 1920 then some (.str (toString i)) else none
  | .max_, .lst xs => match intsD xs with
    | some (x :: r) => some (.int (maxI (x :: r)))
    | _ => none
  | .min_, .lst xs => match intsD xs with
    | some (x :: r) => some (.int (minI (x :: r)))
    | _ => none
  | .ssort, .lst xs => match strsD xs with
    | some ss => if ss.length < 4000 then some (.lst (((uqS ss).map D.str).mergeSort (PySem.W.dataLe false toPy))) else none
    | none => none
  | _, _ => none
def mulOk (i j : Int) : Bool := decide (i.natAbs < 18446744073709551616) || decide (j.natAbs < 18446744073709551616) || decide (i.natAbs.log2 + j.natAbs.log2 < 1000000)
def divOk (j : Int) : Bool := decide (0 < j) && (decide (j < 1073741824) || decide (j.natAbs.log2 < 9000))
def powOk (i j : Int) : Bool := decide (0 ≤ j) && decide (j ≤ 1000000) && decide (i.natAbs < 18446744073709551616)
def repL {α : Type} (n : Nat) (xs : List α) : List α := (List.replicate n xs).flatten
def repS (n : Nat) (s : Str) : Str := ⟨((List.replicate n s.cps.toList).flatten).toArray⟩
def isSem : D → D → Option Bool
  | .non, .non => some true
  | _, .non => some false
  | .bl a, .bl b => some (a == b)
  | _, _ => none
def inSem : D → D → Option Bool
  | x, .lst ys => if plainD x && plainDs ys && decide ((toPy x).depth ≤ 100) then some (ys.any fun y => deq y x) else none
  | x, .tup ys => if plainD x && plainDs ys && decide ((toPy x).depth ≤ 100) then some (ys.any fun y => deq y x) else none
  | .str x, .str y => some (strIn x y)
  | x, .dic kvs => (keyOf x).map fun k => (dget kvs k).isSome
  | _, _ => none
def ixSem : D → D → Option D
  | .lst xs, .int i => L2.atI xs i
  | .tup xs, .int i => L2.atI xs i
  | .str s, .int i => if s.length ≤ BIG then (L2.atI s.cps.toList i).map fun c => .str ⟨#[c]⟩ else none
  | .dic kvs, k => match keyOf k with
    | some k => dget kvs k
    | none => none
  | _, _ => none
def joinS (s : Str) (ys : List Str) : Str := Txt.join s ys
def sem2 : Op2 → D → D → Option D
  | .add, .int i, .int j => some (.int (i + j))
  | .add, .str x, .str y => if x.length + y.length ≤ BIG then some (.str (x ++ y)) else none
  | .add, .lst x, .lst y => if x.length + y.length ≤ BIG then some (.lst (x ++ y)) else none
  | .add, .tup x, .tup y => if x.length + y.length ≤ BIG then some (.tup (x ++ y)) else none
  | .sub, .int i, .int j => some (.int (i - j))
  | .mul, .int i, .int j => if mulOk i j then some (.int (i * j)) else none
  | .mul, .str x, .int j => if j ≤ 1000 && -1000 ≤ j && x.length ≤ 1000 then some (.str (repS j.toNat x)) else none
  | .mul, .lst x, .int j => if j ≤ 1000 && -1000 ≤ j && x.length ≤ 1000 then some (.lst (repL j.toNat x)) else none
  | .fdiv, .int i, .int j => if divOk j then some (.int (i / j)) else none
  | .mod, .int i, .int j => if 0 < j then some (.int (i % j)) else none
  | .pow, .int i, .int j => if powOk i j then some (.int (i ^ j.toNat)) else none
  | .band, .int i, .int j => some (.int (Builtin.bitAnd i j))
  | .shr, .int i, .int j => if 0 ≤ j then some (.int (i / 2 ^ j.toNat)) else none
  | .eq, a, b => (eqSem a b).map .bl
  | .ne, a, b => (eqSem a b).map fun k => .bl (!k)
  | .lt, .int i, .int j => some (.bl (decide (i < j)))
  | .lt, .str i, .str j => some (.bl (decide (i.cps.toList < j.cps.toList)))
  | .le, .int i, .int j => some (.bl (decide (i ≤ j)))
  | .gt, .int i, .int j => some (.bl (decide (j < i)))
  | .ge, .int i, .int j => some (.bl (decide (j ≤ i)))
  | .isin, a, b => (inSem a b).map .bl
  | .notin, a, b => (inSem a b).map fun k => .bl (!k)
  | .is_, a, b => (isSem a b).map .bl
  | .isnot, a, b => (isSem a b).map fun k => .bl (!k)
  | .ix, a, b => ixSem a b
  | .max2, .int i, .int j => some (.int (if j > i then j else i))
  | .min2, .int i, .int j => some (.int (if j < i then j else i))
  | .join, .str s, .lst xs => match strsD xs with
    | some ys => if (ys.map (·.length)).sum + ys.length * s.length ≤ BIG then some (.str (joinS s ys)) else none
    | none => none
  | .get1, .dic kvs, k => (keyOf k).map fun k => (dget kvs k).getD .non
  | _, _, _ => none
def optInt : Option D → Option (Option Int)
  | none => some none
  | some (.int i) => some (some i)
  | _ => none
def sliceSem : D → Option Int → Option Int → Option D
  | .lst xs, lo, hi => some (.lst (cutL xs lo hi))
  | .tup xs, lo, hi => some (.tup (cutL xs lo hi))
  | .str s, lo, hi => if s.length ≤ BIG then some (.str ⟨(cutL s.cps.toList lo hi).toArray⟩) else none
  | _, _, _ => none
def revSem : D → Option D
  | .str s => if s.length ≤ BIG then some (.str (Txt.sliceBy s none none (-1, 0))) else none
  | .lst xs => some (.lst xs.reverse)
  | .tup xs => some (.tup xs.reverse)
  | _ => none

/-! ### what is walked -/
inductive ItOp | of | range | enum | zip | items | vals | keys | rev
  deriving DecidableEq
def rangeD (lo c : Int) (n : Nat) : List D := (List.range n).map fun (i : Nat) => .int (lo + i * c)
def enumD : Nat → List D → List D
  | _, [] => []
  | n, x :: r => .tup [.int n, x] :: enumD (n + 1) r
def zipD : List D → List D → List D
  | x :: r, y :: q => .tup [x, y] :: zipD r q
  | _, _ => []
def small62 (i : Int) : Bool := decide (-4611686018427387904 ≤ i) && decide (i < 4611686018427387904)
def chars (s : Str) : List D := s.cps.toList.map fun c => .str ⟨#[c]⟩
def iterD : ItOp → List D → Option (List D)
  | .of, [.lst xs] => some xs
  | .of, [.tup xs] => some xs
  | .of, [.str s] => some (chars s)
  | .keys, [.dic kvs] => some (kvs.map fun kv => ofKey kv.1)
  | .range, [.int n] => if small62 n then some (rangeD 0 1 n.toNat) else none
  | .range, [.int a, .int b] => if small62 a && small62 b then some (rangeD a 1 (b - a).toNat) else none
  | .range, [.int a, .int b, .int c] => if small62 a && small62 b && decide (c ≠ 0) && decide (c.natAbs < 1073741824) && Builtin.Range.small a b c && decide (0 ≤ Builtin.Range.rangeSize a b c) then some (rangeD a c (Builtin.Range.rangeSize a b c).toNat) else none
  | .enum, [.lst xs] => some (enumD 0 xs)
  | .enum, [.tup xs] => some (enumD 0 xs)
  | .zip, [.lst xs, .lst ys] => some (zipD xs ys)
  | .zip, [.tup xs, .tup ys] => some (zipD xs ys)
  | .zip, [.lst xs, .tup ys] => some (zipD xs ys)
  | .items, [.dic kvs] => some (kvs.map fun kv => .tup [ofKey kv.1, kv.2])
  | .vals, [.dic kvs] => some (kvs.map fun kv => kv.2)
  | .rev, [.lst xs] => some xs.reverse
  | .rev, [.tup xs] => some xs.reverse
  | _, _ => none

/-! ### expressions -/
inductive Tg | name (i : Nat) | tup (is : List Nat)
inductive E where
  | var (i : Nat) | lit (d : D) | glb (x : Str) (d : D)
  | op1 (o : Op1) (a : E) | op2 (o : Op2) (a b : E) | isi (a : E) (t : Ty)
  | tup (es : List E) | lst (es : List E) | dct (ks vs : List E)
  | slice (a : E) (lo hi : Option E) | rev (a : E)
  | and_ (a b : E) | or_ (a b : E) | ite (c a b : E) | cmp2 (o o' : Op2) (a b c : E)
  | get2 (d k x : E)
  | call (f : Nat) (args : List E)
  | comp (elt : E) (tg : Tg) (io : ItOp) (src : List E) (conds : List E)

abbrev Env := List (Option D)
def look (env : Env) (i : Nat) : Option D := match env[i]? with
  | some (some d) => some d
  | _ => none
def setAll (env : Env) : List Nat → List D → Env
  | i :: is, d :: ds => setAll (env.set i (some d)) is ds
  | _, _ => env
def bindT : Tg → D → Env → Option Env
  | .name i, d, env => some (env.set i (some d))
  | .tup is, .tup ds, env => if is.length = ds.length then some (setAll env is ds) else none
  | _, _, _ => none
def compL (f : D → Option (Option D)) : List D → Option (List D)
  | [] => some []
  | x :: r => match f x with
    | some (some y) => (compL f r).map (y :: ·)
    | some none => compL f r
    | none => none
def dctOf : List D → List D → List (Key × D) → Option (List (Key × D))
  | [], [], acc => some acc
  | k :: ks, v :: vs, acc => match keyOf k with
    | some k => dctOf ks vs (dput acc k v)
    | none => none
  | _, _, _ => none
abbrev CF := Nat → List D → Option (D × List D)

section
variable (cf : CF)
mutual
def evalE (env : Env) : E → Option D
  | .var i => look env i
  | .lit d => some d
  | .glb _ d => some d
  | .op1 o a => match evalE env a with
    | some x => sem1 o x
    | none => none
  | .op2 o a b => match evalE env a with
    | some x => (match evalE env b with
      | some y => sem2 o x y
      | none => none)
    | none => none
  | .isi a t => match evalE env a with
    | some x => some (.bl (ofTy t x))
    | none => none
  | .tup es => match evalEs env es with
    | some xs => some (.tup xs)
    | none => none
  | .lst es => match evalEs env es with
    | some xs => some (.lst xs)
    | none => none
  | .dct ks vs => match evalEs env ks with
    | some xs => (match evalEs env vs with
      | some ys => (dctOf xs ys []).map .dic
      | none => none)
    | none => none
  | .slice a lo hi => match evalE env a with
    | some x => (match evalO env lo with
      | some l => (match evalO env hi with
        | some h => sliceSem x l h
        | none => none)
      | none => none)
    | none => none
  | .rev a => match evalE env a with
    | some x => revSem x
    | none => none
  | .and_ a b => match evalE env a with
    | some (.bl true) => (match evalE env b with
      | some (.bl k) => some (.bl k)
      | _ => none)
    | some (.bl false) => some (.bl false)
    | _ => none
  | .or_ a b => match evalE env a with
    | some (.bl false) => (match evalE env b with
      | some (.bl k) => some (.bl k)
      | _ => none)
    | some (.bl true) => some (.bl true)
    | _ => none
  | .ite c a b => match evalE env c with
    | some (.bl true) => evalE env a
    | some (.bl false) => evalE env b
    | _ => none
  | .cmp2 o o' a b c => match evalE env a with
    | some x => (match evalE env b with
      | some y => (match sem2 o x y with
        | some (.bl true) => (match evalE env c with
          | some z => sem2 o' y z
          | none => none)
        | some (.bl false) => some (.bl false)
        | _ => none)
      | none => none)
    | none => none
  | .get2 d k x => match evalE env d with
    | some (.dic kvs) => (match evalE env k with
      | some k => (match evalE env x with
        | some z => (match keyOf k with
          | some k => some ((dget kvs k).getD z)
          | none => none)
        | none => none)
      | none => none)
    | _ => none
  | .call f args => match evalEs env args with
    | some ds => (match cf f ds with
      | some (d, _) => some d
      | none => none)
    | none => none
  | .comp elt tg io src conds => match evalEs env src with
    | some ss => (match iterD io ss with
      | some xs => (if xs.length ≤ BIG then match compL (fun x => match bindT tg x env with
          | some env' => (match evalCs env' conds with
            | some true => (match evalE env' elt with
              | some y => some (some y)
              | none => none)
            | some false => some none
            | none => none)
          | none => none) xs with
        | some ys => some (.lst ys)
        | none => none
        else none)
      | none => none)
    | none => none
def evalEs (env : Env) : List E → Option (List D)
  | [] => some []
  | e :: es => match evalE env e with
    | some x => (match evalEs env es with
      | some xs => some (x :: xs)
      | none => none)
    | none => none
def evalO (env : Env) : Option E → Option (Option Int)
  | none => some none
  | some e => match evalE env e with
    | some (.int i) => some (some i)
    | _ => none
def evalCs (env : Env) : List E → Option Bool
  | [] => some true
  | e :: es => match evalE env e with
    | some (.bl true) => evalCs env es
    | some (.bl false) => some false
    | _ => none
end
end

/-! ### expressions with effects -/
/-- how an argument is handed: by value, an owned slot, a new object -/
inductive Md | v | io (i : Nat) | nw
  deriving DecidableEq
inductive XE where
  | p (e : E) | not_ (a : XE) | o1 (o : Op1) (a : XE) | o2 (o : Op2) (a b : XE)
  | tup (es : List XE) | lst (es : List XE) | and_ (a b : XE) | or_ (a b : XE)
  | call (f : Nat) (args : List XE) (ms : List Md)
  | pop (i : Nat)
  | comp (elt : XE) (tg : Tg) (io : ItOp) (src : List E)
  | compx (elt : XE) (tg : Tg) (x : XE)
def ixT : Tg → List Nat
  | .name i => [i]
  | .tup is => is
def isMut : D → Bool
  | .lst _ => true
  | .dic _ => true
  | _ => false
def isLst : Option D → Bool
  | some (.lst _) => true
  | _ => false
def fillM : Env → List Md → List D → Option (List D)
  | _, [], [] => some []
  | env, .v :: ms, d :: ds => (fillM env ms ds).map (d :: ·)
  | env, .io i :: ms, _ :: ds => match look env i with
    | some d => if isMut d = true then (fillM env ms ds).map (d :: ·) else none
    | none => none
  | env, .nw :: ms, d :: ds => if isMut d = true then (fillM env ms ds).map (d :: ·) else none
  | _, _, _ => none
def iosM : List Md → List Nat
  | [] => []
  | .io i :: ms => i :: iosM ms
  | _ :: ms => iosM ms
def outsM {α : Type} : List Md → List α → List α
  | .v :: ms, os => outsM ms os
  | .io _ :: ms, o :: os => o :: outsM ms os
  | .nw :: ms, _ :: os => outsM ms os
  | _, _ => []
def restT (env e2 : Env) : List Nat → Env
  | [] => e2
  | i :: is => restT env (e2.set i (env.getD i none)) is
def cmpX (xelt : Env → Option (D × Env)) (tg : Tg) : Env → List D → Option (List D × Env)
  | env, [] => some ([], env)
  | env, x :: r => match bindT tg x env with
    | some e1 => (match xelt e1 with
      | some (y, e2) => (match cmpX xelt tg (restT env e2 (ixT tg)) r with
        | some (ys, e3) => some (y :: ys, e3)
        | none => none)
      | none => none)
    | none => none
section
variable (cf : CF)
mutual
def evalX : XE → Env → Option (D × Env)
  | .p e, env => match evalE cf env e with
    | some d => some (d, env)
    | none => none
  | .not_ a, env => match evalX a env with
    | some (.bl b, e1) => some (.bl (!b), e1)
    | _ => none
  | .o1 o a, env => match evalX a env with
    | some (x, e1) => (match sem1 o x with
      | some d => some (d, e1)
      | none => none)
    | none => none
  | .o2 o a b, env => match evalX a env with
    | some (x, e1) => (match evalX b e1 with
      | some (y, e2) => (match sem2 o x y with
        | some d => some (d, e2)
        | none => none)
      | none => none)
    | none => none
  | .tup es, env => match evalXs es env with
    | some (ds, e1) => some (.tup ds, e1)
    | none => none
  | .lst es, env => match evalXs es env with
    | some (ds, e1) => some (.lst ds, e1)
    | none => none
  | .and_ a b, env => match evalX a env with
    | some (.bl true, e1) => (match evalX b e1 with
      | some (.bl k, e2) => some (.bl k, e2)
      | _ => none)
    | some (.bl false, e1) => some (.bl false, e1)
    | _ => none
  | .or_ a b, env => match evalX a env with
    | some (.bl false, e1) => (match evalX b e1 with
      | some (.bl k, e2) => some (.bl k, e2)
      | _ => none)
    | some (.bl true, e1) => some (.bl true, e1)
    | _ => none
  | .call f args ms, env => match evalXs args env with
    | some (ds, e1) => (match fillM e1 ms ds with
      | some ds' => (match cf f ds' with
        | some (d, outs) => some (d, setAll e1 (iosM ms) (outsM ms outs))
        | none => none)
      | none => none)
    | none => none
  | .pop i, env => match look env i with
    | some (.lst xs) => (match xs[xs.length - 1]? with
      | some x => some (x, env.set i (some (.lst xs.dropLast)))
      | none => none)
    | _ => none
  | .comp elt tg io src, env => match evalEs cf env src with
    | some ss => (match iterD io ss with
      | some xs => (if xs.length ≤ BIG then match cmpX (evalX elt) tg env xs with
        | some (ys, e1) => some (.lst ys, e1)
        | none => none
        else none)
      | none => none)
    | none => none
  | .compx elt tg x, env => match evalX x env with
    | some (y, e0) => (match iterD .of [y] with
      | some xs => (if xs.length ≤ BIG then match cmpX (evalX elt) tg e0 xs with
        | some (ys, e1) => some (.lst ys, e1)
        | none => none
        else none)
      | none => none)
    | none => none
def evalXs : List XE → Env → Option (List D × Env)
  | [], env => some ([], env)
  | e :: es, env => match evalX e env with
    | some (x, e1) => (match evalXs es e1 with
      | some (xs, e2) => some (x :: xs, e2)
      | none => none)
    | none => none
end
end

/-! ### statements -/
inductive S where
  | asg (i : Nat) (own : Bool) (e : E)
  | asgT (is : List Nat) (e : E)
  | pop (tg : Tg) (i : Nat)
  | callpop (t : Nat) (f : Nat) (i : Nat)
  | setix (i : Nat) (k v : E)
  | app (i : Nat) (e : E)
  | ext (i : Nat) (e : E)
  | clr (i : Nat)
  | aug (i : Nat) (o : Op2) (e : E)
  | ret (e : E)
  | retN
  | iff (c : E) (a b : List S)
  | for_ (tg : Tg) (io : ItOp) (src : List E) (body : List S)
  | while_ (c : E) (body : List S)
  | expr (e : E)
  | pass
  | brk
  | cnt
  | callio (t : Option Nat) (f : Nat) (args : List E) (ios : List Nat)
  | retio (f : Nat) (args : List E) (ios : List Nat)
  | frz (i : Nat)
  | xasg (i : Nat) (own : Bool) (x : XE)
  | xasgT (is : List Nat) (x : XE)
  | xret (x : XE)
  | xif (c : XE) (a b : List S)
  | xapp (i : Nat) (x : XE)
  | xset (i : Nat) (k : E) (x : XE)
  | xexpr (x : XE)
  | xfor (tg : Tg) (x : XE) (body : List S)
  | xforl (tg : Tg) (x : XE) (body : List S)
def augI : Op2 → Int → Int → Int
  | .sub, x, y => x - y
  | _, x, y => x + y
inductive Fl where
  | nxt (env : Env) | ret (d : D) (env : Env) | brk (env : Env) | cnt (env : Env)
def forL (f : Env → D → Option Fl) : Env → List D → Option Fl
  | env, [] => some (.nxt env)
  | env, x :: r => match f env x with
    | some (.nxt e) => forL f e r
    | some (.cnt e) => forL f e r
    | some (.brk e) => some (.nxt e)
    | some (.ret d e) => some (.ret d e)
    | none => none
def whileL (c : Env → Option Bool) (f : Env → Option Fl) : Nat → Env → Option Fl
  | 0, _ => none
  | n + 1, env => match c env with
    | some true => (match f env with
      | some (.nxt e) => whileL c f n e
      | some (.cnt e) => whileL c f n e
      | some (.brk e) => some (.nxt e)
      | some (.ret d e) => some (.ret d e)
      | none => none)
    | some false => some (.nxt env)
    | none => none
def WF : Nat := 1000000
def boolOf : Option D → Option Bool
  | some (.bl b) => some b
  | _ => none
section
variable (cf : CF)
mutual
def execS (env : Env) : S → Option Fl
  | .asg i _ e => match evalE cf env e with
    | some d => some (.nxt (env.set i (some d)))
    | none => none
  | .asgT is e => match evalE cf env e with
    | some d => (match bindT (.tup is) d env with
      | some env' => some (.nxt env')
      | none => none)
    | none => none
  | .pop tg i => match look env i with
    | some (.lst xs) => (match xs[xs.length - 1]? with
      | some x => (match bindT tg x (env.set i (some (.lst xs.dropLast))) with
        | some env' => some (.nxt env')
        | none => none)
      | none => none)
    | _ => none
  | .callpop t f i => match look env i with
    | some (.lst xs) => (match xs[xs.length - 1]? with
      | some x => (match cf f [x] with
        | some (d, _) => some (.nxt ((env.set i (some (.lst xs.dropLast))).set t (some d)))
        | none => none)
      | none => none)
    | _ => none
  | .setix i k v => match evalE cf env v with
    | some d => (match look env i with
      | some (.dic kvs) => (match evalE cf env k with
        | some k => (match keyOf k with
          | some k => if kvs.length < BIG then some (.nxt (env.set i (some (.dic (dput kvs k d))))) else none
          | none => none)
        | none => none)
      | some (.lst xs) => (match evalE cf env k with
        | some (.int j) => (match L2.ixN xs.length j with
          | some j => some (.nxt (env.set i (some (.lst (xs.set j d)))))
          | none => none)
        | _ => none)
      | _ => none)
    | none => none
  | .app i e => match look env i with
    | some (.lst xs) => (match evalE cf env e with
      | some d => if xs.length < BIG then some (.nxt (env.set i (some (.lst (xs ++ [d]))))) else none
      | none => none)
    | _ => none
  | .ext i e => match look env i with
    | some (.lst xs) => (match evalE cf env e with
      | some (.lst ys) => if xs.length + ys.length ≤ BIG then some (.nxt (env.set i (some (.lst (xs ++ ys))))) else none
      | _ => none)
    | _ => none
  | .clr i => match look env i with
    | some (.lst _) => some (.nxt (env.set i (some (.lst []))))
    | some (.dic _) => some (.nxt (env.set i (some (.dic []))))
    | _ => none
  | .aug i o e => match look env i with
    | some (.int x) => (match evalE cf env e with
      | some (.int y) => some (.nxt (env.set i (some (.int (augI o x y)))))
      | _ => none)
    | _ => none
  | .ret e => match evalE cf env e with
    | some d => some (.ret d env)
    | none => none
  | .retN => some (.ret .non env)
  | .iff c a b => match evalE cf env c with
    | some (.bl true) => execSs env a
    | some (.bl false) => execSs env b
    | _ => none
  | .for_ tg io src body => match evalEs cf env src with
    | some ss => (match iterD io ss with
      | some xs => forL (fun env x => match bindT tg x env with
        | some env' => execSs env' body
        | none => none) env xs
      | none => none)
    | none => none
  | .while_ c body => whileL (fun env => boolOf (evalE cf env c)) (fun env => execSs env body) WF env
  | .expr e => match evalE cf env e with
    | some _ => some (.nxt env)
    | none => none
  | .pass => some (.nxt env)
  | .brk => some (.brk env)
  | .cnt => some (.cnt env)
  | .callio t f args ios => match evalEs cf env args with
    | some ds => (match cf f ds with
      | some (d, outs) => (match t with
        | some t => some (.nxt ((setAll env ios outs).set t (some d)))
        | none => some (.nxt (setAll env ios outs)))
      | none => none)
    | none => none
  | .retio f args ios => match evalEs cf env args with
    | some ds => (match cf f ds with
      | some (d, outs) => some (.ret d (setAll env ios outs))
      | none => none)
    | none => none
  | .frz _ => some (.nxt env)
  | .xasg i _ x => match evalX cf x env with
    | some (d, e1) => some (.nxt (e1.set i (some d)))
    | none => none
  | .xasgT is x => match evalX cf x env with
    | some (d, e1) => (match bindT (.tup is) d e1 with
      | some env' => some (.nxt env')
      | none => none)
    | none => none
  | .xret x => match evalX cf x env with
    | some (d, e1) => some (.ret d e1)
    | none => none
  | .xif c a b => match evalX cf c env with
    | some (.bl true, e1) => execSs e1 a
    | some (.bl false, e1) => execSs e1 b
    | _ => none
  | .xapp i x => if isLst (look env i) = true then (match evalX cf x env with
    | some (d, e1) => (match look e1 i with
      | some (.lst xs) => if xs.length < BIG then some (.nxt (e1.set i (some (.lst (xs ++ [d]))))) else none
      | _ => none)
    | none => none) else none
  | .xset i k x => match evalX cf x env with
    | some (d, e1) => (match look e1 i with
      | some (.dic kvs) => (match evalE cf e1 k with
        | some k => (match keyOf k with
          | some k => if kvs.length < BIG then some (.nxt (e1.set i (some (.dic (dput kvs k d))))) else none
          | none => none)
        | none => none)
      | some (.lst xs) => (match evalE cf e1 k with
        | some (.int j) => (match L2.ixN xs.length j with
          | some j => some (.nxt (e1.set i (some (.lst (xs.set j d)))))
          | none => none)
        | _ => none)
      | _ => none)
    | none => none
  | .xexpr x => match evalX cf x env with
    | some (_, e1) => some (.nxt e1)
    | none => none
  | .xfor tg x body => match evalX cf x env with
    | some (y, e1) => (match iterD .range [y] with
      | some xs => forL (fun env x => match bindT tg x env with
        | some env' => execSs env' body
        | none => none) e1 xs
      | none => none)
    | none => none
  | .xforl tg x body => match evalX cf x env with
    | some (y, e1) => (match iterD .of [y] with
      | some xs => forL (fun env x => match bindT tg x env with
        | some env' => execSs env' body
        | none => none) e1 xs
      | none => none)
    | none => none
def execSs (env : Env) : List S → Option Fl
  | [] => some (.nxt env)
  | s :: r => match execS env s with
    | some (.nxt e) => execSs e r
    | o => o
end
end

/-! ### defs -/
/-- frozen, borrowed, owned -/
inductive Cl | F | B | O
  deriving DecidableEq
structure FDef where
  name : Str
  ps : List Str
  N : List Str
  dfl : List D
  body : List S
  cls : List Cl
  io : List Nat
  fresh : Bool
def ioOut (env : Env) : List Nat → Option (List D)
  | [] => some []
  | i :: is => match look env i, ioOut env is with
    | some d, some ds => some (d :: ds)
    | _, _ => none
def runD (cf : CF) (fd : FDef) (args : List D) : Option (D × List D) :=
  if args.length = fd.ps.length then
    match execSs cf (args.map some ++ List.replicate (fd.N.length - fd.ps.length) none) fd.body with
    | some (.ret d env) => (ioOut env fd.io).map fun o => (d, o)
    | some (.nxt env) => (ioOut env fd.io).map fun o => (.non, o)
    | _ => none
  else none
def fill (fd : FDef) (ds : List D) : List D := ds ++ fd.dfl.drop (fd.dfl.length - (fd.ps.length - ds.length))
def callF (prog : List FDef) : Nat → CF
  | 0 => fun _ _ => none
  | n + 1 => fun f ds => match prog[f]? with
    | none => none
    | some fd => runD (callF prog n) fd (fill fd ds)
end PyI
end

section
set_option maxRecDepth 100000
set_option maxHeartbeats 4000000
namespace PyI
open PySem PySem.Spec PyProof.Rows L2

/-! ### representation -/
def tupObj (its : List Value) : Obj := { cls := .type "tuple", data := .seq its.toArray }
/-- a frozen tuple, without a dict of its own -/
def TupN (K : PySem.W.Frag) (G : Hp) (a : Addr) (xs : List V) : Prop := (∃ its, G a = some (.frz (tupObj its) (.tup xs))) ∨
  ∃ (o : Obj) (its : Array Value) (n : Nat), K.lookup a = some o ∧ o.cls = .type "tuple" ∧ o.dict = none ∧ o.data = .seq its n ∧ its.size ≤ sizeLine ∧ Vals xs its.toList
theorem TupN.sq {K : PySem.W.Frag} {G : Hp} {a : Addr} {xs : List V} (h : TupN K G a xs) : SqT K G a xs := by
  rcases h with ⟨its, h⟩ | ⟨o, its, n, h1, h2, _, h3, h4, h5⟩
  · exact .inl (.inr ⟨_, h⟩)
  · exact .inr ⟨o, its, n, h1, h2, h3, h4, h5⟩
section
variable (K : PySem.W.Frag)
mutual
inductive Rep (G : Hp) : V → D → Prop where
  | non : Rep G .non .non
  | bl (b : Bool) : Rep G (.bl b) (.bl b)
  | int (i : Int) : Rep G (.int i) (.int i)
  | str (s : Str) : Rep G (.str s) (.str s)
  | tup {a : Addr} {xs : List V} {ds : List D} : TupN K G a xs → RepL G xs ds → Rep G (.ref a) (.tup ds)
  | lst {a : Addr} {xs : List V} {ds : List D} : SqL K G a xs → RepL G xs ds → Rep G (.ref a) (.lst ds)
  | dic {a : Addr} {kvs : List (Key × V)} {es : List (Key × D)} : Rd G a (.dK kvs) → RepK G kvs es → Rep G (.ref a) (.dic es)
inductive RepL (G : Hp) : List V → List D → Prop where
  | nil : RepL G [] []
  | cons {v : V} {d : D} {vs : List V} {ds : List D} : Rep G v d → RepL G vs ds → RepL G (v :: vs) (d :: ds)
inductive RepK (G : Hp) : List (Key × V) → List (Key × D) → Prop where
  | nil : RepK G [] []
  | cons {k : Key} {v : V} {d : D} {vs : List (Key × V)} {ds : List (Key × D)} : Rep G v d → RepK G vs ds → RepK G ((k, v) :: vs) ((k, d) :: ds)
end
end
def Ex (H H' : Hp) : Prop := ∀ a o, H a = some o → H' a = some o
theorem Ex.refl (H : Hp) : Ex H H := fun _ _ h => h
theorem Ex.trans {H H1 H2 : Hp} (a : Ex H H1) (b : Ex H1 H2) : Ex H H2 := fun x o h => b x o (a x o h)
theorem Ex.new {H : Hp} {p : Addr} {o : HO} (h : H p = none) : Ex H (upd H p o) := fun a u e => by
  rw [upd_ne (ne_of_none e h)]
  exact e
theorem ex_rd {H H' : Hp} {a : Addr} {u : HO} (e : Ex H H') (h : Rd H a u) : Rd H' a u := by
  rcases h with h | ⟨o, h⟩
  · exact Or.inl (e a _ h)
  · exact Or.inr ⟨o, e a _ h⟩
theorem ex_l {K : PySem.W.Frag} {H H' : Hp} {a : Addr} {xs : List V} (e : Ex H H') (h : SqL K H a xs) : SqL K H' a xs := by
  rcases h with h | h
  · exact Or.inl (ex_rd e h)
  · exact Or.inr h
theorem ex_t {K : PySem.W.Frag} {H H' : Hp} {a : Addr} {xs : List V} (e : Ex H H') (h : SqT K H a xs) : SqT K H' a xs := by
  rcases h with h | h
  · exact Or.inl (ex_rd e h)
  · exact Or.inr h
theorem fresh_back {H H' : Hp} {p : Addr} (e : Ex H H') (h : H' p = none) : H p = none := by
  cases h1 : H p with
  | none => rfl
  | some o =>
    rw [e p o h1] at h
    cases h
theorem ex_n {K : PySem.W.Frag} {H H' : Hp} {a : Addr} {xs : List V} (e : Ex H H') (h : TupN K H a xs) : TupN K H' a xs := by
  rcases h with ⟨its, h⟩ | h
  · exact .inl ⟨its, e _ _ h⟩
  · exact .inr h
section
variable {K : PySem.W.Frag} {G G' : Hp}
mutual
theorem Rep.mono (e : Ex G G') : ∀ {v : V} {d : D}, Rep K G v d → Rep K G' v d
  | _, _, .non => .non
  | _, _, .bl b => .bl b
  | _, _, .int b => .int b
  | _, _, .str b => .str b
  | _, _, .tup h r => .tup (ex_n e h) (RepL.mono e r)
  | _, _, .lst h r => .lst (ex_l e h) (RepL.mono e r)
  | _, _, .dic h r => .dic (ex_rd e h) (RepK.mono e r)
theorem RepL.mono (e : Ex G G') : ∀ {v : List V} {d : List D}, RepL K G v d → RepL K G' v d
  | _, _, .nil => .nil
  | _, _, .cons h r => .cons (Rep.mono e h) (RepL.mono e r)
theorem RepK.mono (e : Ex G G') : ∀ {v : List (Key × V)} {d : List (Key × D)}, RepK K G v d → RepK K G' v d
  | _, _, .nil => .nil
  | _, _, .cons h r => .cons (Rep.mono e h) (RepK.mono e r)
end
theorem RepL.length {xs : List V} {ds : List D} (h : RepL K G xs ds) : xs.length = ds.length := by
  induction ds generalizing xs with
  | nil => cases h; rfl
  | cons d ds ih => cases h with | cons a b => simp [ih b]
theorem RepL.append {xs ys : List V} {ds es : List D} (h : RepL K G xs ds) (h' : RepL K G ys es) : RepL K G (xs ++ ys) (ds ++ es) := by
  induction ds generalizing xs with
  | nil => cases h; exact h'
  | cons d ds ih => cases h with | cons a b => exact .cons a (ih b)
theorem RepL.get {xs : List V} {ds : List D} (h : RepL K G xs ds) : ∀ {i : Nat} {d : D}, ds[i]? = some d → ∃ v, xs[i]? = some v ∧ Rep K G v d := by
  induction ds generalizing xs with
  | nil => intro i d e; simp at e
  | cons d0 ds ih =>
    cases h with
    | cons a b =>
      intro i d e
      cases i with
      | zero => simp at e; subst e; exact ⟨_, by simp, a⟩
      | succ i => simp at e; obtain ⟨v, h1, h2⟩ := ih b e; exact ⟨v, by simpa using h1, h2⟩
theorem RepL.getV {xs : List V} {ds : List D} (h : RepL K G xs ds) : ∀ {i : Nat} {v : V}, xs[i]? = some v → ∃ d, ds[i]? = some d ∧ Rep K G v d := by
  induction ds generalizing xs with
  | nil => cases h; intro i d e; simp at e
  | cons d0 ds ih =>
    cases h with
    | cons a b =>
      intro i d e
      cases i with
      | zero => simp at e; subst e; exact ⟨_, by simp, a⟩
      | succ i => simp at e; obtain ⟨v, h1, h2⟩ := ih b e; exact ⟨v, by simpa using h1, h2⟩
theorem RepL.take {xs : List V} {ds : List D} (h : RepL K G xs ds) : ∀ n, RepL K G (xs.take n) (ds.take n) := by
  induction ds generalizing xs with
  | nil => cases h; intro n; simp; exact .nil
  | cons d ds ih => cases h with | cons a b =>
    intro n
    cases n with
    | zero => simp; exact .nil
    | succ n => simp; exact .cons a (ih b n)
theorem RepL.drop {xs : List V} {ds : List D} (h : RepL K G xs ds) : ∀ n, RepL K G (xs.drop n) (ds.drop n) := by
  induction ds generalizing xs with
  | nil => cases h; intro n; simp; exact .nil
  | cons d ds ih => cases h with | cons a b =>
    intro n
    cases n with
    | zero => simp; exact .cons a b
    | succ n => simp; exact ih b n
theorem RepL.set {xs : List V} {ds : List D} (h : RepL K G xs ds) {v : V} {d : D} (r : Rep K G v d) : ∀ n, RepL K G (xs.set n v) (ds.set n d) := by
  induction ds generalizing xs with
  | nil => cases h; intro n; simp; exact .nil
  | cons d ds ih => cases h with | cons a b =>
    intro n
    cases n with
    | zero => simp; exact .cons r b
    | succ n => simp; exact .cons a (ih b n)
theorem RepL.cut {xs : List V} {ds : List D} (h : RepL K G xs ds) (lo hi : Option Int) : RepL K G (cutV xs lo hi) (cutL ds lo hi) := by
  unfold cutV cutL
  rw [h.length]
  exact (h.drop _).take _
theorem RepL.reverse {xs : List V} {ds : List D} (h : RepL K G xs ds) : RepL K G xs.reverse ds.reverse := by
  induction ds generalizing xs with
  | nil => cases h; exact .nil
  | cons d ds ih => cases h with | cons a b => simp only [List.reverse_cons]; exact (ih b).append (.cons a .nil)
theorem RepL.dropLast {xs : List V} {ds : List D} (h : RepL K G xs ds) : RepL K G xs.dropLast ds.dropLast := by
  rw [List.dropLast_eq_take, List.dropLast_eq_take, h.length]
  exact h.take _
theorem RepL.rep {xs : List V} {ds : List D} (h : RepL K G xs ds) : ∀ n, RepL K G (List.replicate n xs).flatten (repL n ds)
  | 0 => .nil
  | n + 1 => by
    unfold repL
    simp only [List.replicate_succ, List.flatten_cons]
    exact h.append (RepL.rep h n)
theorem RepL.intsD {xs : List V} {ds : List D} (h : RepL K G xs ds) : ∀ {is : List Int}, intsD ds = some is → xs = is.map V.int := by
  induction ds generalizing xs with
  | nil => intro is e; cases h; cases e; rfl
  | cons d ds ih =>
    intro is e
    cases h with
    | cons a b =>
      cases d with
      | int i =>
        unfold PyI.intsD at e
        cases q : PyI.intsD ds with
        | none => rw [q] at e; cases e
        | some r => rw [q] at e; cases e; cases a; rw [ih b q]; rfl
      | _ => cases e
theorem RepL.boolsD {xs : List V} {ds : List D} (h : RepL K G xs ds) : ∀ {is : List Bool}, boolsD ds = some is → xs = is.map V.bl := by
  induction ds generalizing xs with
  | nil => intro is e; cases h; cases e; rfl
  | cons d ds ih =>
    intro is e
    cases h with
    | cons a b =>
      cases d with
      | bl i =>
        unfold PyI.boolsD at e
        cases q : PyI.boolsD ds with
        | none => rw [q] at e; cases e
        | some r => rw [q] at e; cases e; cases a; rw [ih b q]; rfl
      | _ => cases e
theorem RepL.strsD {xs : List V} {ds : List D} (h : RepL K G xs ds) : ∀ {is : List Str}, strsD ds = some is → xs = is.map V.str := by
  induction ds generalizing xs with
  | nil => intro is e; cases h; cases e; rfl
  | cons d ds ih =>
    intro is e
    cases h with
    | cons a b =>
      cases d with
      | str i =>
        unfold PyI.strsD at e
        cases q : PyI.strsD ds with
        | none => rw [q] at e; cases e
        | some r => rw [q] at e; cases e; cases a; rw [ih b q]; rfl
      | _ => cases e
theorem Rep.key {v : V} {d : D} {k : Key} (r : Rep K G v d) (e : keyOf d = some k) : v = kV k := by
  cases r <;> cases e <;> rfl
theorem Rep.ofKey (k : Key) : Rep K G (kV k) (ofKey k) := by
  cases k with
  | inl i => exact .int i
  | inr s => exact .str s
theorem RepK.keys {kvs : List (Key × V)} {es : List (Key × D)} (h : RepK K G kvs es) : RepL K G (kvs.map fun kv => kV kv.1) (es.map fun kv => ofKey kv.1) := by
  induction es generalizing kvs with
  | nil => cases h; exact .nil
  | cons e es ih => cases h with | cons a b => exact .cons (Rep.ofKey _) (ih b)
theorem RepK.vals {kvs : List (Key × V)} {es : List (Key × D)} (h : RepK K G kvs es) : RepL K G (kvs.map (·.2)) (es.map fun kv => kv.2) := by
  induction es generalizing kvs with
  | nil => cases h; exact .nil
  | cons e es ih => cases h with | cons a b => exact .cons a (ih b)
theorem RepK.length {kvs : List (Key × V)} {es : List (Key × D)} (h : RepK K G kvs es) : kvs.length = es.length := by
  have := h.vals.length
  simpa using this
theorem RepK.get {kvs : List (Key × V)} {es : List (Key × D)} (h : RepK K G kvs es) (k : Key) : (valV kvs k = none ∧ dget es k = none) ∨ ∃ v d, valV kvs k = some v ∧ dget es k = some d ∧ Rep K G v d := by
  induction es generalizing kvs with
  | nil => cases h; exact .inl ⟨rfl, rfl⟩
  | cons e es ih =>
    cases h with
    | @cons k' v d vs _ a b =>
      by_cases q : k' = k
      · refine .inr ⟨v, d, ?_, ?_, a⟩
        · simp [valV, q]
        · simp [dget, q]
      · rcases ih b with ⟨h1, h2⟩ | ⟨v', d', h1, h2, h3⟩
        · refine .inl ⟨?_, ?_⟩
          · simpa [valV, q] using h1
          · simpa [dget, q] using h2
        · refine .inr ⟨v', d', ?_, ?_, h3⟩
          · simpa [valV, q] using h1
          · simpa [dget, q] using h2
theorem RepK.anyk {kvs : List (Key × V)} {es : List (Key × D)} (h : RepK K G kvs es) (k : Key) : (kvs.any fun kv => decide (kv.1 = k)) = es.any fun kv => decide (kv.1 = k) := by
  induction es generalizing kvs with
  | nil => cases h; rfl
  | cons e es ih => cases h with | cons a b => simp only [List.any_cons]; rw [ih b]
theorem RepK.snoc {kvs : List (Key × V)} {es : List (Key × D)} (h : RepK K G kvs es) {k : Key} {v : V} {d : D} (r : Rep K G v d) : RepK K G (kvs ++ [(k, v)]) (es ++ [(k, d)]) := by
  induction es generalizing kvs with
  | nil => cases h; exact .cons r .nil
  | cons e es ih => cases h with | cons a b => exact .cons a (ih b)
theorem RepK.repl {k : Key} {v : V} {d : D} (r : Rep K G v d) : ∀ {kvs : List (Key × V)} {es : List (Key × D)}, RepK K G kvs es →
    RepK K G (kvs.map fun kv => if kv.1 = k then (kv.1, v) else kv) (es.map fun kv => if kv.1 = k then (kv.1, d) else kv)
  | _, _, .nil => .nil
  | _, _, @RepK.cons _ _ k' v' d' vs ds a b => by
    simp only [List.map_cons]
    by_cases q : k' = k
    · rw [if_pos q, if_pos q]; exact .cons r (RepK.repl r b)
    · rw [if_neg q, if_neg q]; exact .cons a (RepK.repl r b)
theorem RepK.put {kvs : List (Key × V)} {es : List (Key × D)} (h : RepK K G kvs es) {k : Key} {v : V} {d : D} (r : Rep K G v d) : RepK K G (putK kvs k v) (dput es k d) := by
  unfold putK dput
  rw [h.anyk k]
  split
  · exact RepK.repl r h
  · exact h.snoc r
end

/-! ### frozen part and steps -/
def At (L : List Addr) (H : Hp) (b : Addr) (o : HO) : Prop := (b ∉ L ∧ H b = some o) ∨ (b ∈ L ∧ ∃ o' kvs, o = .dK kvs ∧ H b = some (.frz o' (.dK kvs)))
theorem At.ne {L : List Addr} {H : Hp} {b : Addr} {o : HO} (h : At L H b o) : H b ≠ none := by
  rcases h with ⟨_, h⟩ | ⟨_, _, _, _, h⟩ <;> rw [h] <;> simp
theorem At.ex {L : List Addr} {H H' : Hp} {b : Addr} {o : HO} (h : At L H b o) (e : Ex H H') : At L H' b o := by
  rcases h with ⟨l, h⟩ | ⟨l, o', kvs, e1, h⟩
  · exact .inl ⟨l, e _ _ h⟩
  · exact .inr ⟨l, o', kvs, e1, e _ _ h⟩
theorem At.rd {L : List Addr} {H : Hp} {b : Addr} {o : HO} (h : At L H b o) : Rd H b o := by
  rcases h with ⟨_, h⟩ | ⟨_, o', kvs, e1, h⟩
  · exact .inl h
  · rw [e1]; exact .inr ⟨o', h⟩
structure Fz (L : List Addr) (G H : Hp) : Prop where
  sub : ∀ b o, G b = some o → At L H b o
  lk : ∀ b ∈ L, ∃ o kvs, H b = some (.frz o (.dK kvs))
theorem Fz.rd {L : List Addr} {G H : Hp} (f : Fz L G H) {a : Addr} {u : HO} (h : Rd G a u) : Rd H a u := by
  rcases h with h | ⟨o, h⟩
  · exact (f.sub a _ h).rd
  · rcases f.sub a _ h with ⟨_, q⟩ | ⟨_, _, _, q, _⟩
    · exact .inr ⟨o, q⟩
    · cases q
theorem Fz.sqT {K : PySem.W.Frag} {L : List Addr} {G H : Hp} (f : Fz L G H) {a : Addr} {xs : List V} (h : SqT K G a xs) : SqT K H a xs := by
  rcases h with h | h
  · exact .inl (f.rd h)
  · exact .inr h
theorem Fz.sqL {K : PySem.W.Frag} {L : List Addr} {G H : Hp} (f : Fz L G H) {a : Addr} {xs : List V} (h : SqL K G a xs) : SqL K H a xs := by
  rcases h with h | h
  · exact .inl (f.rd h)
  · exact .inr h
theorem Fz.ne {L : List Addr} {G H : Hp} (f : Fz L G H) {a : Addr} (h : H a = none) : G a = none := by
  cases e : G a with
  | none => rfl
  | some o => exact absurd h (f.sub a o e).ne
theorem Fz.tupN {K : PySem.W.Frag} {L : List Addr} {G H : Hp} (f : Fz L G H) {a : Addr} {xs : List V} (h : TupN K G a xs) : TupN K H a xs := by
  rcases h with ⟨its, h⟩ | h
  · rcases f.sub a _ h with ⟨_, q⟩ | ⟨_, _, _, q, _⟩
    · exact .inl ⟨its, q⟩
    · cases q
  · exact .inr h
structure Step (L : List Addr) (G H G' H' : Hp) : Prop where
  hh : Ex H H'
  gg : Ex G G'
  fr : ∀ b, G' b ≠ none → G b ≠ none ∨ H b = none
  fz : Fz L G' H'
section
variable {L : List Addr} {G H G' H' G1 H1 : Hp}
theorem Step.refl (f : Fz L G H) : Step L G H G H := ⟨Ex.refl H, Ex.refl G, fun b h => .inl h, f⟩
theorem Step.trans (a : Step L G H G1 H1) (b : Step L G1 H1 G' H') : Step L G H G' H' :=
  ⟨a.hh.trans b.hh, a.gg.trans b.gg, fun c h => by
    rcases b.fr c h with q | q
    · exact a.fr c q
    · exact .inr (fresh_back a.hh q), b.fz⟩
theorem Fz.ex (f : Fz L G H) (e : Ex H H') : Fz L G H' := ⟨fun b o q => (f.sub b o q).ex e, fun b hb => by
  obtain ⟨o, kvs, q⟩ := f.lk b hb
  exact ⟨o, kvs, e _ _ q⟩⟩
theorem Fz.nl (f : Fz L G H) {p : Addr} (hp : H p = none) : p ∉ L := fun h => by
  obtain ⟨o, kvs, q⟩ := f.lk p h
  rw [hp] at q
  cases q
/-- a new object, not frozen -/
theorem Step.new (f : Fz L G H) {p : Addr} {o : HO} (hp : H p = none) : Step L G H G (upd H p o) :=
  ⟨Ex.new hp, Ex.refl G, fun b h => .inl h, f.ex (Ex.new hp)⟩
/-- a new object is frozen -/
theorem Fz.freeze (f : Fz L G H) {p : Addr} {o : HO} (hp : H p = some o) (hL : p ∉ L) (hG : G p = none) : Fz L (upd G p o) H := ⟨fun b u q => by
  by_cases e : b = p
  · subst e; rw [upd_same] at q; cases q; exact .inl ⟨hL, hp⟩
  · rw [upd_ne e] at q; exact f.sub b u q, f.lk⟩
theorem Step.frz (s : Step L G H G' H') (f : Fz L G H) {p : Addr} {o : HO} (hp : H p = none) (hp' : H' p = some o) (hG : G' p = none) : Step L G H (upd G' p o) H' :=
  ⟨s.hh, s.gg.trans (Ex.new hG), fun b h => by
    by_cases e : b = p
    · subst e; exact .inr hp
    · rw [upd_ne e] at h; exact s.fr b h, s.fz.freeze hp' (f.nl hp) hG⟩
end
end PyI
namespace PyI
open PySem PySem.Spec PyProof.Rows L2
section
variable (K : PySem.W.Frag)
def Own (G H : Hp) (a : Addr) : D → Prop
  | .lst ds => ∃ xs, H a = some (.lst xs) ∧ RepL K G xs ds
  | .dic es => ∃ kvs, H a = some (.dK kvs) ∧ RepK K G kvs es
  | _ => False
/-- read at the top -/
def RepT (G H : Hp) (v : V) : D → Prop
  | .non => v = .non
  | .bl b => v = .bl b
  | .int i => v = .int i
  | .str s => v = .str s
  | .tup ds => Rep K G v (.tup ds)
  | .lst ds => ∃ a xs, v = .ref a ∧ SqL K H a xs ∧ RepL K G xs ds
  | .dic es => ∃ a kvs, v = .ref a ∧ Rd H a (.dK kvs) ∧ RepK K G kvs es
/-- a result: new, or frozen data that is no list, no dict -/
def ResF (G' H H' : Hp) (v : V) : D → Prop
  | .lst ds => ∃ a, v = .ref a ∧ G' a = none ∧ H a = none ∧ ∃ xs, H' a = some (.lst xs) ∧ RepL K G' xs ds
  | .dic es => ∃ a, v = .ref a ∧ G' a = none ∧ H a = none ∧ ∃ kvs, H' a = some (.dK kvs) ∧ RepK K G' kvs es
  | d => Rep K G' v d
end
section
variable {K : PySem.W.Frag} {L : List Addr} {G H G' H' G1 H1 : Hp} {v : V} {d : D} {a p : Addr}
theorem Rep.toT (f : Fz L G H) (r : Rep K G v d) : RepT K G H v d := by
  cases r with
  | non => rfl
  | bl => rfl
  | int => rfl
  | str => rfl
  | tup h r => exact .tup h r
  | lst h r => exact ⟨_, _, rfl, f.sqL h, r⟩
  | dic h r => exact ⟨_, _, rfl, f.rd h, r⟩
theorem RepT.ex (eg : Ex G G') (eh : Ex H H') (r : RepT K G H v d) : RepT K G' H' v d := by
  cases d with
  | tup ds => exact Rep.mono eg r
  | lst ds => obtain ⟨a, xs, e, h, r⟩ := r; exact ⟨a, xs, e, ex_l eh h, r.mono eg⟩
  | dic ds => obtain ⟨a, xs, e, h, r⟩ := r; exact ⟨a, xs, e, ex_rd eh h, r.mono eg⟩
  | _ => exact r
theorem RepT.step (s : Step L G H G' H') (r : RepT K G H v d) : RepT K G' H' v d := r.ex s.gg s.hh
theorem Own.toT (h : Own K G H a d) : RepT K G H (.ref a) d := by
  cases d with
  | lst ds => obtain ⟨xs, h, r⟩ := h; exact ⟨a, xs, rfl, .inl (.inl h), r⟩
  | dic ds => obtain ⟨xs, h, r⟩ := h; exact ⟨a, xs, rfl, .inl h, r⟩
  | _ => exact h.elim
theorem Own.mut (h : Own K G H a d) : isMut d = true := by
  cases d <;> first | rfl | exact h.elim
theorem Own.ex (eg : Ex G G') (eh : Ex H H') (h : Own K G H a d) : Own K G' H' a d := by
  cases d with
  | lst ds => obtain ⟨xs, h, r⟩ := h; exact ⟨xs, eh _ _ h, r.mono eg⟩
  | dic ds => obtain ⟨xs, h, r⟩ := h; exact ⟨xs, eh _ _ h, r.mono eg⟩
  | _ => exact h.elim
theorem Own.ne (h : Own K G H a d) : H a ≠ none := by
  cases d with
  | lst ds => obtain ⟨xs, h, r⟩ := h; rw [h]; simp
  | dic ds => obtain ⟨xs, h, r⟩ := h; rw [h]; simp
  | _ => exact h.elim
theorem Rep.im (h : isMut d = false) (r : Rep K G' v d) : ResF K G' H H' v d := by
  cases d <;> first | exact r | cases h
theorem ResF.im (h : isMut d = false) (r : ResF K G' H H' v d) : Rep K G' v d := by
  cases d <;> first | exact r | cases h
theorem ResF.own (h : isMut d = true) (r : ResF K G' H H' v d) : ∃ a, v = .ref a ∧ G' a = none ∧ H a = none ∧ Own K G' H' a d := by
  cases d <;> first | exact r | cases h
theorem ResF.of (h : Own K G' H' a d) (g : G' a = none) (n : H a = none) : ResF K G' H H' (.ref a) d := by
  cases d <;> first | exact ⟨a, rfl, g, n, h⟩ | exact h.elim
/-- a new thing is frozen, where it is wanted so -/
theorem ResF.freeze (f : Fz L G H) (s : Step L G H G' H') (r : ResF K G' H H' v d) : ∃ G'', Step L G H G'' H' ∧ Rep K G'' v d := by
  cases d with
  | lst ds =>
    obtain ⟨a, rfl, g, n, xs, h, r⟩ := r
    exact ⟨upd G' a (.lst xs), s.frz f n h g, .lst (.inl (.inl upd_same)) (r.mono (Ex.new g))⟩
  | dic ds =>
    obtain ⟨a, rfl, g, n, xs, h, r⟩ := r
    exact ⟨upd G' a (.dK xs), s.frz f n h g, .dic (.inl upd_same) (r.mono (Ex.new g))⟩
  | _ => exact ⟨G', s, r⟩
theorem ResF.toT (s : Step L G H G' H') (r : ResF K G' H H' v d) : RepT K G' H' v d := by
  cases d with
  | lst ds =>
    obtain ⟨a, rfl, g, n, xs, h, r⟩ := r
    exact ⟨a, xs, rfl, .inl (.inl h), r⟩
  | dic ds =>
    obtain ⟨a, rfl, g, n, xs, h, r⟩ := r
    exact ⟨a, xs, rfl, .inl h, r⟩
  | _ => exact Rep.toT s.fz r
theorem Step.newF (f : Fz L G H) {o : HO} (hp : H p = none) : Step L G H (upd G p o) (upd H p o) := (Step.new f hp).frz f hp upd_same (f.ne hp)
theorem new_tup {Q : VK} (f : Fz L G H) {xs : List V} {ds : List D} (r : RepL K G xs ds) (k : ∀ v G' H', Step L G H G' H' → Rep K G' v (.tup ds) → Q v H') (its : List Value) (hp : H p = none) : Q (.ref p) (upd H p (.frz (tupObj its) (.tup xs))) :=
  k _ (upd G p (.frz (tupObj its) (.tup xs))) _ (Step.newF f hp) (.tup (.inl ⟨its, upd_same⟩) (r.mono (Ex.new (f.ne hp))))
theorem new_lst {Q : VK} (f : Fz L G H) {xs : List V} {ds : List D} (r : RepL K G xs ds) (k : ∀ v G' H', Step L G H G' H' → ResF K G' H H' v (.lst ds) → Q v H') (hp : H p = none) : Q (.ref p) (upd H p (.lst xs)) :=
  k _ G _ (Step.new f hp) ⟨p, rfl, f.ne hp, hp, xs, upd_same, r⟩
theorem new_dic {Q : VK} (f : Fz L G H) {xs : List (Key × V)} {ds : List (Key × D)} (r : RepK K G xs ds) (k : ∀ v G' H', Step L G H G' H' → ResF K G' H H' v (.dic ds) → Q v H') (hp : H p = none) : Q (.ref p) (upd H p (.dK xs)) :=
  k _ G _ (Step.new f hp) ⟨p, rfl, f.ne hp, hp, xs, upd_same, r⟩
/-! data, for == and sorting -/
mutual
theorem Rep.dp (f : Fz L G H) : ∀ {v : V} {d : D}, Rep K G v d → plainD d = true → Dp K H v (toPy d)
  | _, _, .non, _ => .non
  | _, _, .bl b, _ => .bl b
  | _, _, .int b, _ => .int b
  | _, _, .str b, _ => .str b
  | _, _, .tup h r, p => .tup (f.sqT h.sq) (RepL.dp f r (by simpa [plainD] using p))
  | _, _, .lst h r, p => .lst (f.sqL h) (RepL.dp f r (by simpa [plainD] using p))
  | _, _, .dic _ _, p => by simp [plainD] at p
theorem RepL.dp (f : Fz L G H) : ∀ {v : List V} {d : List D}, RepL K G v d → plainDs d = true → DpAll K H v (toPys d)
  | _, _, .nil, _ => .nil
  | _, _, .cons h r, p => by
    simp only [plainDs, Bool.and_eq_true] at p
    exact .cons (Rep.dp f h p.1) (RepL.dp f r p.2)
end
theorem RepT.dp (f : Fz L G H) (r : RepT K G H v d) (p : plainD d = true) : Dp K H v (toPy d) := by
  cases d with
  | non => cases (show v = _ from r); exact .non
  | bl => cases (show v = _ from r); exact .bl _
  | int => cases (show v = _ from r); exact .int _
  | str => cases (show v = _ from r); exact .str _
  | tup ds => exact Rep.dp f r p
  | lst ds =>
    obtain ⟨a, xs, rfl, h, r⟩ := r
    exact .lst h (r.dp f (by simpa [plainD] using p))
  | dic => simp [plainD] at p
end
mutual
theorem plain_toPy : ∀ d : D, plainD d = true → (toPy d).plain = true
  | .non, _ => rfl
  | .bl _, _ => rfl
  | .int _, _ => rfl
  | .str _, _ => rfl
  | .tup xs, h => by
    simp only [toPy, PyData.plain]
    exact plains_toPy xs (by simpa [plainD] using h)
  | .lst xs, h => by
    simp only [toPy, PyData.plain]
    exact plains_toPy xs (by simpa [plainD] using h)
  | .dic _, h => by simp [plainD] at h
theorem plains_toPy : ∀ d : List D, plainDs d = true → PyData.plainAll (toPys d) = true
  | [], _ => rfl
  | x :: xs, h => by
    simp only [plainDs, Bool.and_eq_true] at h
    simp only [toPys, PyData.plainAll, plain_toPy x h.1, plains_toPy xs h.2, Bool.and_self]
end
mutual
theorem deq_eqv : ∀ a b : D, deq a b = PyData.eqv (toPy a) (toPy b)
  | .non, b => by cases b <;> simp [deq, toPy, PyData.eqv]
  | .bl x, b => by cases b <;> simp [deq, toPy, PyData.eqv]
  | .int i, b => by cases b <;> simp [deq, toPy, PyData.eqv]
  | .str i, b => by cases b <;> simp [deq, toPy, PyData.eqv]
  | .tup xs, b => by cases b <;> simp [deq, toPy, PyData.eqv, deqs_eqv]
  | .lst xs, b => by cases b <;> simp [deq, toPy, PyData.eqv, deqs_eqv]
  | .dic xs, b => by cases b <;> simp [deq, toPy, PyData.eqv]
theorem deqs_eqv : ∀ a b : List D, deqs a b = PyData.eqvAll (toPys a) (toPys b)
  | [], [] => rfl
  | [], _ :: _ => rfl
  | _ :: _, [] => rfl
  | x :: xs, y :: ys => by simp [deqs, toPys, PyData.eqvAll, deq_eqv x y, deqs_eqv xs ys]
end
end PyI
end

section
set_option maxRecDepth 100000
set_option maxHeartbeats 4000000
namespace PyI
open PySem PySem.Spec PyProof.Rows L2

def freshOp2 : Op2 → Bool
  | .add => true
  | .mul => true
  | .sub => true
  | _ => false
def PostB (K : PySem.W.Frag) (b : Bool) (G' H H' : Hp) (v : V) (d : D) : Prop := match b with
  | true => ResF K G' H H' v d
  | false => Rep K G' v d
/-- what a binary operation asks, by data -/
def rS (K : PySem.W.Frag) (o : Op2) : R2 := fun x y H Q => ∃ L G dx dy d, Fz L G H ∧ RepT K G H x dx ∧ RepT K G H y dy ∧ sem2 o dx dy = some d ∧
  ∀ v G' H', Step L G H G' H' → PostB K (freshOp2 o) G' H H' v d → Q v H'
theorem BIG_line : BIG ≤ sizeLine := by decide
theorem ifs {α : Type} {c : Prop} [Decidable c] {a b : α} (h : (if c then some a else none) = some b) : c ∧ a = b := by
  by_cases hc : c
  · rw [if_pos hc] at h; exact ⟨hc, Option.some.inj h⟩
  · rw [if_neg hc] at h; cases h
theorem ifb {α : Type} {c : Bool} {a b : α} (h : (if c then some a else none) = some b) : c = true ∧ a = b := ifs h
theorem map_some {α β : Type} {o : Option α} {f : α → β} {b : β} (h : o.map f = some b) : ∃ a, o = some a ∧ f a = b := by
  cases o with
  | none => cases h
  | some a => exact ⟨a, rfl, Option.some.inj h⟩
section
variable {X : Cx}
theorem Inv.lstR {pins : List (Addr × Obj)} {σ : L2.St} {H : Hp} {s : Shared} {a : Addr} {xs : List V} (I : Inv X pins σ H s) (h : SqL X.K H a xs) :
    ∃ its : List Value, Vals xs its ∧ s.heap.IsList a its.toArray ∧ xs.length ≤ sizeLine := by
  obtain ⟨its, r, p, z⟩ := I.list h
  exact ⟨its, r, p.isList, z⟩
/-- two lists put behind one another, wherever they stand -/
theorem cat_lists {pins : List (Addr × Obj)} {σ : L2.St} {H : Hp} {s : Shared} {a b : Addr} {xs ys : List V} {Q : VK} (I : Inv X pins σ H s) (ha : SqL X.K H a xs) (hb : SqL X.K H b ys) (hz : xs.length + ys.length ≤ sizeLine)
    (q : ∀ p, H p = none → Q (.ref p) (upd H p (.lst (xs ++ ys)))) : wpAny (model X.prog X.w) X.A (binaryOp .Add (.ref a) (.ref b)) (EP X pins σ Q) X.xe s := by
  obtain ⟨its, r, hl, _⟩ := Inv.lstR I ha
  obtain ⟨its2, r2, hl2, _⟩ := Inv.lstR I hb
  have e1 := r.length
  have e2 := r2.length
  obtain ⟨⟨cls, dd, data, sl⟩, ho, hc, n, hd⟩ := id hl
  obtain ⟨⟨cls2, dd2, data2, sl2⟩, ho2, hc2, n2, hd2⟩ := id hl2
  simp only at hc hd hc2 hd2
  subst hc hd hc2 hd2
  have e : its.toArray ++ its2.toArray = (its ++ its2).toArray := by simp
  refine concat_meets ⟨_, ho, rfl⟩ ⟨_, ho2, rfl⟩ noFill_list_add seq_list_add PySem.F.slot_list_add PySem.F.entry_list_add (PySem.F.args_list_add_2 _ _) (list_addW a b its.toArray its2.toArray n n2 dd dd2 sl sl2 (by simp; omega)) ⟨ho, ho2, ?_⟩
  rw [e]
  exact ⟨.ref _, _, I.lnew (t' := s.toks) (r.append r2) (by rw [List.length_append]; omega), rfl, q _ I.fresh⟩
/-- a new tuple, laid and frozen -/
theorem Inv.newTup {pins : List (Addr × Obj)} {σ : L2.St} {H : Hp} {s : Shared} {xs : List V} {its : List Value} (I : Inv X pins σ H s) (r : Vals xs its) (hz : xs.length ≤ sizeLine) (t' : Nat) :
    Inv X pins σ (upd H s.heap.objs.size (.frz (tupObj its) (.tup xs))) { s with heap := s.heap.push (tupObj its), toks := t' } :=
  I.laid (t' := t') (fun b ob q => Heap.get?_push_of_some _ q) (Nat.le_refl _) (show ObjOk X.prog X.w _ _ _ (.frz (tupObj its) (.tup xs)) from ⟨Heap.get?_push_size _ rfl, hz, its, r, IsTup.new _ _⟩)
theorem tupN_is {pins : List (Addr × Obj)} {σ : L2.St} {H : Hp} {s : Shared} {a : Addr} {xs : List V} (I : Inv X pins σ H s) (h : TupN X.K H a xs) :
    ∃ (its : List Value) (o : Obj) (n : Nat), Vals xs its ∧ s.heap.get? a = some o ∧ o.cls = .type "tuple" ∧ o.dict = none ∧ o.data = .seq its.toArray n ∧ xs.length ≤ sizeLine := by
  rcases h with ⟨its, h⟩ | ⟨o, its, n, h1, h2, h2', h3, h4, h5⟩
  · obtain ⟨e, z, its', r, ⟨o, e', c, n, d⟩⟩ := I.hok a _ h
    rw [e] at e'
    cases e'
    have d' : Data.seq its.toArray 0 = Data.seq its'.toArray n := d
    injection d' with d1 d2
    have : its = its' := by simpa using congrArg Array.toList d1
    subst this
    exact ⟨its, _, 0, r, e, rfl, rfl, rfl, z⟩
  · refine ⟨its.toList, o, n, h5, I.kIn a o h1, h2, h2', by simpa using h3, ?_⟩
    have e := h5.length
    simp only [Array.length_toList] at e
    omega
/-- t + u -/
theorem cat_tups {pins : List (Addr × Obj)} {σ : L2.St} {H : Hp} {s : Shared} {a b : Addr} {xs ys : List V} {Q : VK} (I : Inv X pins σ H s) (ha : SqT X.K H a xs) (hb : SqT X.K H b ys) (hz : xs.length + ys.length ≤ sizeLine)
    (q0 : xs = [] → Q (.ref b) H) (q1 : ys = [] → Q (.ref a) H) (q2 : ∀ p its, H p = none → Q (.ref p) (upd H p (.frz (tupObj its) (.tup (xs ++ ys))))) :
    wpAny (model X.prog X.w) X.A (binaryOp .Add (.ref a) (.ref b)) (EP X pins σ Q) X.xe s := by
  obtain ⟨its, r1, p1, _⟩ := I.tuple ha
  obtain ⟨its2, r2, p2, _⟩ := I.tuple hb
  by_cases hx : xs = []
  · subst hx
    cases r1
    exact cat_tup0 p1 p2 ⟨.ref b, H, I, rfl, q0 rfl⟩
  · refine HT.cat_tup p1 p2 (fun z => hx (r1.nil_iff.mp z)) (fun z => ⟨.ref a, H, I, rfl, q1 (r2.nil_iff.mp z)⟩) (fun z => ?_) (by rw [← r1.length, ← r2.length]; exact hz)
    exact ⟨.ref s.heap.objs.size, _, Inv.newTup I (r1.append r2) (by rw [List.length_append]; exact hz) s.toks, rfl, q2 _ _ I.fresh⟩
theorem opS_add : OpR X (binaryOp .Add) (rS X.K .add) := by
  intro pins s σ H x y v u Q I rx ry h
  obtain ⟨L, G, dx, dy, d, fz, tx, ty, hs, k⟩ := h
  cases dx <;> cases dy <;> first | (simp [sem2] at hs; done) | skip
  case int.int i j =>
    cases hs; cases (show x = _ from tx); cases (show y = _ from ty)
    exact op_add pins s σ H _ _ v u Q I rx ry ⟨i, j, rfl, rfl, k _ G H (Step.refl fz) (Rep.int _)⟩
  case str.str i j =>
    obtain ⟨c, e⟩ := ifs hs
    cases e; cases (show x = _ from tx); cases (show y = _ from ty)
    exact op_add_str pins s σ H _ _ v u Q I rx ry ⟨i, j, rfl, rfl, Nat.le_trans c BIG_line, k _ G H (Step.refl fz) (Rep.str _)⟩
  case lst.lst ds es =>
    obtain ⟨c, e⟩ := ifs hs
    cases e
    obtain ⟨a, xs, rfl, ha, ra⟩ := tx
    obtain ⟨b, ys, rfl, hb, rb⟩ := ty
    cases rx; cases ry
    exact cat_lists I ha hb (by rw [ra.length, rb.length]; exact Nat.le_trans c BIG_line) fun p hp => new_lst fz (ra.append rb) k hp
  case tup.tup ds es =>
    obtain ⟨c, e⟩ := ifs hs
    cases e
    cases tx with
    | @tup a xs _ ha ra =>
      cases ty with
      | @tup b ys _ hb rb =>
        cases rx
        cases ry
        refine cat_tups I (fz.sqT ha.sq) (fz.sqT hb.sq) (by rw [ra.length, rb.length]; exact Nat.le_trans c BIG_line) (fun e => ?_) (fun e => ?_) (fun p its hp => ?_)
        · subst e
          cases ra
          exact k _ G H (Step.refl fz) (Rep.tup hb rb)
        · subst e
          cases rb
          exact k _ G H (Step.refl fz) (by rw [List.append_nil]; exact Rep.tup ha ra)
        · exact new_tup fz (ra.append rb) (fun v G' H' s r => k v G' H' s r) its hp
theorem opS_sub : OpR X (binaryOp .Sub) (rS X.K .sub) := by
  intro pins s σ H x y v u Q I rx ry h
  obtain ⟨L, G, dx, dy, d, fz, tx, ty, hs, k⟩ := h
  cases dx <;> cases dy <;> first | (simp [sem2] at hs; done) | skip
  case int.int i j =>
    cases hs; cases (show x = _ from tx); cases (show y = _ from ty)
    exact op_sub pins s σ H _ _ v u Q I rx ry ⟨i, j, rfl, rfl, k _ G H (Step.refl fz) (Rep.int _)⟩
theorem lt64 {i : Int} (h : i.natAbs < 18446744073709551616) : -(2 ^ 64) < i ∧ i < 2 ^ 64 := by
  have e : (2 ^ 64 : Int) = 18446744073709551616 := by decide
  rw [e]
  omega
theorem opS_mod : OpR X (binaryOp .Mod) (rS X.K .mod) := by
  intro pins s σ H x y v u Q I rx ry h
  obtain ⟨L, G, dx, dy, d, fz, tx, ty, hs, k⟩ := h
  cases dx <;> cases dy <;> first | (simp [sem2] at hs; done) | skip
  case int.int i j =>
    obtain ⟨c, e⟩ := ifs hs
    cases e; cases (show x = _ from tx); cases (show y = _ from ty)
    exact op_mod pins s σ H _ _ v u Q I rx ry ⟨i, j, rfl, rfl, c, k _ G H (Step.refl fz) (Rep.int _)⟩
theorem opS_fdiv : OpR X (binaryOp .FloorDiv) (rS X.K .fdiv) := by
  intro pins s σ H x y v u Q I rx ry h
  obtain ⟨L, G, dx, dy, d, fz, tx, ty, hs, k⟩ := h
  cases dx <;> cases dy <;> first | (simp [sem2] at hs; done) | skip
  case int.int i j =>
    obtain ⟨c, e⟩ := ifb hs
    cases e; cases (show x = _ from tx); cases (show y = _ from ty)
    unfold divOk at c
    simp only [Bool.and_eq_true, Bool.or_eq_true, decide_eq_true_eq] at c
    rcases c with ⟨c0, c | c⟩
    · exact op_fdiv pins s σ H _ _ v u Q I rx ry ⟨i, j, rfl, rfl, ⟨c0, c⟩, k _ G H (Step.refl fz) (Rep.int _)⟩
    · exact op_fdivW pins s σ H _ _ v u Q I rx ry ⟨i, j, rfl, rfl, ⟨c0, c⟩, k _ G H (Step.refl fz) (Rep.int _)⟩
theorem opS_pow : OpR X (binaryOp .Pow) (rS X.K .pow) := by
  intro pins s σ H x y v u Q I rx ry h
  obtain ⟨L, G, dx, dy, d, fz, tx, ty, hs, k⟩ := h
  cases dx <;> cases dy <;> first | (simp [sem2] at hs; done) | skip
  case int.int i j =>
    obtain ⟨c, e⟩ := ifb hs
    cases e; cases (show x = _ from tx); cases (show y = _ from ty)
    unfold powOk at c
    simp only [Bool.and_eq_true, decide_eq_true_eq] at c
    exact op_pow pins s σ H _ _ v u Q I rx ry ⟨i, j, rfl, rfl, ⟨c.1.1, c.1.2, by have := c.2; omega⟩, k _ G H (Step.refl fz) (Rep.int _)⟩
theorem opS_band : OpR X (binaryOp .BitAnd) (rS X.K .band) := by
  intro pins s σ H x y v u Q I rx ry h
  obtain ⟨L, G, dx, dy, d, fz, tx, ty, hs, k⟩ := h
  cases dx <;> cases dy <;> first | (simp [sem2] at hs; done) | skip
  case int.int i j =>
    cases hs; cases (show x = _ from tx); cases (show y = _ from ty)
    exact op_and pins s σ H _ _ v u Q I rx ry ⟨i, j, rfl, rfl, k _ G H (Step.refl fz) (Rep.int _)⟩
theorem opS_shr : OpR X (binaryOp .RShift) (rS X.K .shr) := by
  intro pins s σ H x y v u Q I rx ry h
  obtain ⟨L, G, dx, dy, d, fz, tx, ty, hs, k⟩ := h
  cases dx <;> cases dy <;> first | (simp [sem2] at hs; done) | skip
  case int.int i j =>
    obtain ⟨c, e⟩ := ifs hs
    cases e; cases (show x = _ from tx); cases (show y = _ from ty)
    exact op_shr pins s σ H _ _ v u Q I rx ry ⟨i, j, rfl, rfl, c, k _ G H (Step.refl fz) (Rep.int _)⟩
theorem rep_foldl : ∀ (n : Nat) (x acc : Array Nat), (List.replicate n x).foldl (· ++ ·) acc = acc ++ ((List.replicate n x.toList).flatten).toArray
  | 0, x, acc => by simp
  | n + 1, x, acc => by
    simp only [List.replicate_succ, List.foldl_cons, List.flatten_cons]
    rw [rep_foldl n x]
    apply Array.ext'
    simp
theorem str_mul {pins : List (Addr × Obj)} {σ : L2.St} {H : Hp} {s : Shared} {x : Str} {n : Int} {t u : Tok} {Q : VK} (I : Inv X pins σ H s) (h1 : n ≤ 1000) (h0 : -1000 ≤ n) (hx : x.length ≤ 1000) (q : Q (.str (repS n.toNat x)) H) :
    wpAny (model X.prog X.w) X.A (binaryOp .Mult (.str x t) (.int n u)) (EP X pins σ Q) X.xe s := by
  refine PySem.P.mul_str ?_ ?_ ?_ ?_
  · have a : decide (n < -(2 ^ 63 : Int)) = false := decide_eq_false (by have e : (2 ^ 63 : Int) = 9223372036854775808 := by decide
                                                                         omega)
    have b : decide (n ≥ 2 ^ 63) = false := decide_eq_false (by have e : (2 ^ 63 : Int) = 9223372036854775808 := by decide
                                                                omega)
    rw [a, b]; rfl
  · intro hn _
    have e : (2 ^ 63 - 1 : Int) = 9223372036854775807 := by decide
    rw [e]
    have : (1000 : Int) ≤ 9223372036854775807 / n := by
      rw [Int.le_ediv_iff_mul_le (by omega)]
      omega
    omega
  · intro _ _
    have : x.length * n.toNat ≤ 1000 * 1000 := Nat.mul_le_mul hx (by omega)
    have z : (1000 * 1000 : Nat) ≤ sizeLine := by decide
    exact decide_eq_false (by omega)
  · by_cases hn : n < 1
    · rw [if_pos hn]
      have e : n.toNat = 0 := by omega
      rw [e] at q
      exact ⟨by decide, V.str _, H, I.tok _, ⟨_, rfl⟩, q⟩
    · rw [if_neg hn]
      by_cases h2 : (n == 1 || x.length == 0) = true
      · rw [if_pos h2]
        have e : repS n.toNat x = x := by
          simp only [Bool.or_eq_true, beq_iff_eq] at h2
          rcases h2 with rfl | h2
          · cases x; simp [repS]
          · have : x.cps = #[] := by
              apply Array.eq_empty_of_size_eq_zero
              exact h2
            cases x
            simp at this
            subst this
            simp [repS]
        rw [e] at q
        exact ⟨.str x, H, I, ⟨_, rfl⟩, q⟩
      · rw [if_neg h2, rep_foldl]
        have e : (#[] : Array Nat) ++ ((List.replicate n.toNat x.cps.toList).flatten).toArray = ((List.replicate n.toNat x.cps.toList).flatten).toArray := by simp
        rw [e]
        refine ⟨?_, V.str _, H, I.tok _, ⟨_, rfl⟩, q⟩
        show ((List.replicate n.toNat x.cps.toList).flatten.toArray).size ≤ sizeLine
        rw [List.size_toArray, PyProof.Rows.lm_len_rep_flat]
        have l : x.cps.toList.length ≤ 1000 := by rw [Array.length_toList]; exact hx
        have : n.toNat * x.cps.toList.length ≤ 1000 * 1000 := Nat.mul_le_mul (by omega) l
        have z : (1000 * 1000 : Nat) ≤ sizeLine := by decide
        omega
theorem list_mulW (l : Addr) (items : Array Value) (n : Nat) (x : Int) (u : Tok) (dd : Option Addr) (sl : Array (Option Value)) (hc0 : ¬(!Builtin.List.listFitsIndex x) = true) (hc1 : ¬items.size * x.toNat > (2 ^ 63 - 1) / 8) (hc2 : ¬Builtin.List.listTooLong (items.size * x.toNat) = true) :
    Meets (Builtin.«list.__mul__» ⟨[.ref l, .int x u], []⟩) (fun _ R s => s.heap.get? l = some { cls := .type "list", dict := dd, data := .seq items n, slots := sl } ∧ R (.ok (.ret (Value.ref s.heap.objs.size))) { s with heap := s.heap.push { cls := Value.type "list", data := Data.seq (List.foldl (fun x1 x2 => x1 ++ x2) #[] (List.replicate (if items.isEmpty = true then 0 else x.toNat) items)) }, toks := s.toks }) :=
  .of_wp fun prog w A R s h => by
    obtain ⟨hp, g, d, tk, os⟩ := s; obtain ⟨hl, h⟩ := h
    have hsz := AutoListH.joined_fits hc2
    wp_walk; refine wpAny_ite_false (decide_eq_false (Nat.not_lt.mpr hsz)) ?_; wp_walk; exact ⟨_, rfl, h⟩
theorem int___rmul___int_listW (a : Int) (t : Tok) (l : Addr) (items : Array Value) (n : Nat) (dd : Option Addr) (sl : Array (Option Value)) :
    Meets (Builtin.«int.__rmul__» ⟨[.int a t, .ref l], []⟩) (fun _ R s => s.heap.get? l = some { cls := .type "list", dict := dd, data := .seq items n, slots := sl } ∧ R (.ok (.ret Value.notImplemented)) s) :=
  .of_wp fun prog w A R s h => by obtain ⟨hp, g, d, tk, os⟩ := s; obtain ⟨hl, h⟩ := h; wp_walk; exact ⟨_, rfl, h⟩
theorem mul_list {pins : List (Addr × Obj)} {σ : L2.St} {H : Hp} {s : Shared} {l : Addr} {xs : List V} {k : Int} {t : Tok} {Q : VK} (I : Inv X pins σ H s) (hl : SqL X.K H l xs) (h1 : k ≤ 1000) (h0 : -1000 ≤ k) (hx : xs.length ≤ 1000)
    (q : ∀ p, H p = none → Q (.ref p) (upd H p (.lst (List.replicate k.toNat xs).flatten))) : wpAny (model X.prog X.w) X.A (binaryOp .Mult (.ref l) (.int k t)) (EP X pins σ Q) X.xe s := by
  obtain ⟨its, r, hq, _⟩ := Inv.lstR I hl
  have el := r.length
  obtain ⟨⟨cls, dd, data, sl⟩, ho, hc, n, hd⟩ := id hq
  simp only at hc hd
  subst hc hd
  have hz : its.length * k.toNat ≤ sizeLine := by
    have : its.length * k.toNat ≤ 1000 * 1000 := Nat.mul_le_mul (by omega) (by omega)
    have z : (1000 * 1000 : Nat) ≤ sizeLine := by decide
    omega
  have hlen : its.toArray.size * k.toNat ≤ sizeLine := by rw [List.size_toArray]; exact hz
  have hcap : ¬ its.toArray.size * k.toNat > (2 ^ 63 - 1) / 8 := by
    have : (sizeLine : Nat) ≤ (2 ^ 63 - 1) / 8 := by decide
    omega
  have e63 : (2 ^ 63 : Int) = 9223372036854775808 := by decide
  have hfit : ¬ (!Builtin.List.listFitsIndex k) = true := by
    rw [fitsIndex_both (by rw [e63]; omega) (by rw [e63]; omega)]
    exact Bool.false_ne_true
  have hlong : ¬ Builtin.List.listTooLong (its.toArray.size * k.toNat) = true := by
    rw [notLongL hlen]
    exact Bool.false_ne_true
  have hnew : List.foldl (fun x1 x2 => x1 ++ x2) #[] (List.replicate (if its.toArray.isEmpty = true then 0 else k.toNat) its.toArray) = (List.replicate k.toNat its).flatten.toArray := by
    have f0 : ∀ m : Nat, List.foldl (fun x1 x2 => x1 ++ x2) #[] (List.replicate m its.toArray) = (List.replicate m its).flatten.toArray := fun m => by
      have := foldl_rep its m []
      rw [List.nil_append] at this
      exact this
    rw [f0]
    cases its with
    | nil => simp
    | cons a r' => rw [if_neg (by simp)]
  refine wpAny_binaryOp_repeat_ref (T := "list") (U := "int") (by decide) ⟨_, ho, rfl⟩ (fun s' => typeIs_int s' k t) noFill_list_mul PySem.F.fills_int_mul PySem.F.slot_int_rmul repeat_list PySem.F.slot_int_index.lookup
    (call_meets PySem.F.slot_int_rmul (typeIs_int s k t) PySem.F.entry_int_rmul (PySem.F.args_int_rmul_2 _ _) (int___rmul___int_listW k t l its.toArray n dd sl)
      ⟨ho, rfl, ⟨_, ho, rfl⟩, call_meets PySem.F.slot_list_mul ⟨_, ho, rfl⟩ PySem.F.entry_list_mul (PySem.F.args_list_mul_2 _ _) (list_mulW l its.toArray n k t dd sl hfit hcap hlong) ⟨ho, ?_⟩⟩)
  rw [hnew]
  exact ⟨.ref _, _, I.lnew (t' := s.toks) (r.rep k.toNat) (by rw [PyProof.Rows.lm_len_rep_flat, Nat.mul_comm, el]; exact hz), rfl, q _ I.fresh⟩
theorem opS_mul : OpR X (binaryOp .Mult) (rS X.K .mul) := by
  intro pins s σ H x y v u Q I rx ry h
  obtain ⟨L, G, dx, dy, d, fz, tx, ty, hs, k⟩ := h
  cases dx <;> cases dy <;> first | (simp [sem2] at hs; done) | skip
  case int.int i j =>
    obtain ⟨c, e⟩ := ifb hs
    cases e; cases (show x = _ from tx); cases (show y = _ from ty)
    unfold mulOk at c
    simp only [Bool.or_eq_true, decide_eq_true_eq] at c
    rcases c with (c | c) | c
    · exact op_mul pins s σ H _ _ v u Q I rx ry ⟨i, j, rfl, rfl, .inl (lt64 c), k _ G H (Step.refl fz) (Rep.int _)⟩
    · exact op_mul pins s σ H _ _ v u Q I rx ry ⟨i, j, rfl, rfl, .inr (lt64 c), k _ G H (Step.refl fz) (Rep.int _)⟩
    · exact op_mulW pins s σ H _ _ v u Q I rx ry ⟨i, j, rfl, rfl, c, k _ G H (Step.refl fz) (Rep.int _)⟩
  case str.int i j =>
    obtain ⟨c, e⟩ := ifb hs
    cases e; cases (show x = _ from tx); cases (show y = _ from ty)
    simp only [Bool.and_eq_true, decide_eq_true_eq] at c
    obtain ⟨t, rfl⟩ := rx
    obtain ⟨t', rfl⟩ := ry
    exact str_mul I c.1.1 c.1.2 c.2 (k _ G H (Step.refl fz) (Rep.str _))
  case lst.int ds j =>
    obtain ⟨c, e⟩ := ifb hs
    cases e; cases (show y = _ from ty)
    obtain ⟨a, xs, rfl, ha, ra⟩ := tx
    simp only [Bool.and_eq_true, decide_eq_true_eq] at c
    cases rx
    obtain ⟨t', rfl⟩ := ry
    exact mul_list I ha c.1.1 c.1.2 (by rw [ra.length]; exact c.2) fun p hp => new_lst fz (ra.rep _) k hp
/-! ### comparisons -/
theorem opS_lt : OpR X (compareOp .Lt) (rS X.K .lt) := by
  intro pins s σ H x y v u Q I rx ry h
  obtain ⟨L, G, dx, dy, d, fz, tx, ty, hs, k⟩ := h
  cases dx <;> cases dy <;> first | (simp [sem2] at hs; done) | skip
  case int.int i j =>
    cases hs; cases (show x = _ from tx); cases (show y = _ from ty)
    exact op_lt pins s σ H _ _ v u Q I rx ry ⟨i, j, rfl, rfl, k _ G H (Step.refl fz) (Rep.bl _)⟩
  case str.str i j =>
    cases hs; cases (show x = _ from tx); cases (show y = _ from ty)
    exact op_lt_str pins s σ H _ _ v u Q I rx ry ⟨i, j, rfl, rfl, k _ G H (Step.refl fz) (Rep.bl _)⟩
theorem opS_le : OpR X (compareOp .LtE) (rS X.K .le) := by
  intro pins s σ H x y v u Q I rx ry h
  obtain ⟨L, G, dx, dy, d, fz, tx, ty, hs, k⟩ := h
  cases dx <;> cases dy <;> first | (simp [sem2] at hs; done) | skip
  case int.int i j =>
    cases hs; cases (show x = _ from tx); cases (show y = _ from ty)
    exact op_le pins s σ H _ _ v u Q I rx ry ⟨i, j, rfl, rfl, k _ G H (Step.refl fz) (Rep.bl _)⟩
theorem opS_gt : OpR X (compareOp .Gt) (rS X.K .gt) := by
  intro pins s σ H x y v u Q I rx ry h
  obtain ⟨L, G, dx, dy, d, fz, tx, ty, hs, k⟩ := h
  cases dx <;> cases dy <;> first | (simp [sem2] at hs; done) | skip
  case int.int i j =>
    cases hs; cases (show x = _ from tx); cases (show y = _ from ty)
    exact op_gt pins s σ H _ _ v u Q I rx ry ⟨i, j, rfl, rfl, k _ G H (Step.refl fz) (Rep.bl _)⟩
theorem opS_ge : OpR X (compareOp .GtE) (rS X.K .ge) := by
  intro pins s σ H x y v u Q I rx ry h
  obtain ⟨L, G, dx, dy, d, fz, tx, ty, hs, k⟩ := h
  cases dx <;> cases dy <;> first | (simp [sem2] at hs; done) | skip
  case int.int i j =>
    cases hs; cases (show x = _ from tx); cases (show y = _ from ty)
    exact op_ge pins s σ H _ _ v u Q I rx ry ⟨i, j, rfl, rfl, k _ G H (Step.refl fz) (Rep.bl _)⟩
theorem is_inv {a b : D} {k : Bool} (h : isSem a b = some k) : (b = .non ∧ (a = .non ∧ k = true ∨ a ≠ .non ∧ k = false)) ∨ ∃ p q, a = .bl p ∧ b = .bl q ∧ k = (p == q) := by
  cases a <;> cases b <;> simp [isSem] at h <;> simp [h]
theorem RepT.notnone {K : PySem.W.Frag} {G H : Hp} {v : V} {d : D} (r : RepT K G H v d) (h : d ≠ .non) : v ≠ .non := by
  intro e
  subst e
  cases d with
  | non => exact h rfl
  | tup ds => cases (show Rep K G _ (.tup ds) from r)
  | lst ds => obtain ⟨a, xs, e, _⟩ := r; cases e
  | dic ds => obtain ⟨a, xs, e, _⟩ := r; cases e
  | bl => cases (show V.non = _ from r)
  | int => cases (show V.non = _ from r)
  | str => cases (show V.non = _ from r)
theorem opS_is : OpR X (compareOp .Is) (rS X.K .is_) := by
  intro pins s σ H x y v u Q I rx ry h
  obtain ⟨L, G, dx, dy, d, fz, tx, ty, hs, k⟩ := h
  obtain ⟨b, hb, e⟩ := map_some (show (isSem dx dy).map D.bl = some d from hs)
  subst e
  rcases is_inv hb with ⟨rfl, ⟨rfl, rfl⟩ | ⟨hn, rfl⟩⟩ | ⟨p, q, rfl, rfl, rfl⟩
  · cases (show x = _ from tx); cases (show y = _ from ty)
    exact op_isN pins s σ H _ _ v u Q I rx ry ⟨rfl, k _ G H (Step.refl fz) (Rep.bl _)⟩
  · cases (show y = _ from ty)
    refine op_isN pins s σ H _ _ v u Q I rx ry ⟨rfl, ?_⟩
    rw [decide_eq_false (tx.notnone hn)]
    exact k _ G H (Step.refl fz) (Rep.bl _)
  · cases (show x = _ from tx); cases (show y = _ from ty)
    refine op_isBl pins s σ H _ _ v u Q I rx ry ⟨p, q, rfl, rfl, ?_⟩
    rw [← Bool.beq_eq_decide_eq]
    exact k _ G H (Step.refl fz) (Rep.bl _)
theorem opS_isnot : OpR X (compareOp .IsNot) (rS X.K .isnot) := by
  intro pins s σ H x y v u Q I rx ry h
  obtain ⟨L, G, dx, dy, d, fz, tx, ty, hs, k⟩ := h
  obtain ⟨b, hb, e⟩ := map_some (show (isSem dx dy).map (fun k => D.bl (!k)) = some d from hs)
  subst e
  rcases is_inv hb with ⟨rfl, ⟨rfl, rfl⟩ | ⟨hn, rfl⟩⟩ | ⟨p, q, rfl, rfl, rfl⟩
  · cases (show x = _ from tx); cases (show y = _ from ty)
    exact op_notN pins s σ H _ _ v u Q I rx ry ⟨rfl, k _ G H (Step.refl fz) (Rep.bl _)⟩
  · cases (show y = _ from ty)
    refine op_notN pins s σ H _ _ v u Q I rx ry ⟨rfl, ?_⟩
    rw [decide_eq_false (tx.notnone hn)]
    exact k _ G H (Step.refl fz) (Rep.bl _)
  · cases (show x = _ from tx); cases (show y = _ from ty)
    refine op_notBl pins s σ H _ _ v u Q I rx ry ⟨p, q, rfl, rfl, ?_⟩
    rw [← Bool.beq_eq_decide_eq]
    exact k _ G H (Step.refl fz) (Rep.bl _)
/-! equality -/
theorem reads_of {pins : List (Addr × Obj)} {σ : L2.St} {H : Hp} {s : Shared} {L : List Addr} {G : Hp} {x : V} {v : Value} {d : D} (I : Inv X pins σ H s) (fz : Fz L G H) (r : RepT X.K G H x d) (p : plainD d = true) (rx : RelV x v) :
    ∃ as, Reads s.heap v (toPy d) as := Dp.reads I (toPy d) x v (r.dp fz p) rx
theorem eq_plainS {pins : List (Addr × Obj)} {σ : L2.St} {H : Hp} {s : Shared} {L : List Addr} {G : Hp} {x y : V} {v u : Value} {a b : D} (hu : X.A.units + 120 < cLine) (I : Inv X pins σ H s) (fz : Fz L G H) (tx : RepT X.K G H x a) (ty : RepT X.K G H y b)
    (rx : RelV x v) (ry : RelV y u) (h : (plainD a && plainD b && (decide ((toPy a).depth ≤ 100) || decide ((toPy b).depth ≤ 100))) = true) {Q : Value → Shared → Prop} (q : Q (.bool (deq a b)) s) :
    wpAny (model X.prog X.w) X.A (compareOp .Eq v u) Q X.xe s := by
  simp only [Bool.and_eq_true, Bool.or_eq_true, decide_eq_true_eq] at h
  obtain ⟨⟨pa, pb⟩, pd⟩ := h
  obtain ⟨as, ra⟩ := reads_of I fz tx pa rx
  obtain ⟨bs, rb⟩ := reads_of I fz ty pb ry
  refine SeqAt.eq_plain ra rb (plain_toPy a pa) (plain_toPy b pb) ?_ (by rw [← deq_eqv]; exact q)
  have : min (toPy a).depth (toPy b).depth ≤ 100 := by omega
  omega
theorem ne_plainS {pins : List (Addr × Obj)} {σ : L2.St} {H : Hp} {s : Shared} {L : List Addr} {G : Hp} {x y : V} {v u : Value} {a b : D} (hu : X.A.units + 120 < cLine) (I : Inv X pins σ H s) (fz : Fz L G H) (tx : RepT X.K G H x a) (ty : RepT X.K G H y b)
    (rx : RelV x v) (ry : RelV y u) (h : (plainD a && plainD b && (decide ((toPy a).depth ≤ 100) || decide ((toPy b).depth ≤ 100))) = true) {Q : Value → Shared → Prop} (q : Q (.bool (!deq a b)) s) :
    wpAny (model X.prog X.w) X.A (compareOp .NotEq v u) Q X.xe s := by
  simp only [Bool.and_eq_true, Bool.or_eq_true, decide_eq_true_eq] at h
  obtain ⟨⟨pa, pb⟩, pd⟩ := h
  obtain ⟨as, ra⟩ := reads_of I fz tx pa rx
  obtain ⟨bs, rb⟩ := reads_of I fz ty pb ry
  refine SeqAt.ne_plain ra rb (plain_toPy a pa) (plain_toPy b pb) ?_ (by rw [← deq_eqv]; exact q)
  have : min (toPy a).depth (toPy b).depth ≤ 100 := by omega
  omega
theorem eqSem_plain {a b : D} {k : Bool} (h : eqSem a b = some k) : (∃ p q, a = .dic p ∧ b = .dic q ∧ k = dicEq p q ∧ (((p.all fun kv => plainD kv.2) && (q.all fun kv => plainD kv.2) && (p.all fun kv => decide ((toPy kv.2).depth ≤ 100))) = true)) ∨
    ((plainD a && plainD b && (decide ((toPy a).depth ≤ 100) || decide ((toPy b).depth ≤ 100))) = true ∧ k = deq a b) := by
  by_cases hh : ∃ p q, a = .dic p ∧ b = .dic q
  · obtain ⟨p, q, rfl, rfl⟩ := hh
    obtain ⟨c, e⟩ := ifb h
    exact .inl ⟨p, q, rfl, rfl, e.symm, c⟩
  · refine .inr ?_
    have e : eqSem a b = if plainD a && plainD b && (decide ((toPy a).depth ≤ 100) || decide ((toPy b).depth ≤ 100)) then some (deq a b) else none := by
      unfold eqSem
      split
      · exact absurd ⟨_, _, rfl, rfl⟩ hh
      · rfl
    rw [e] at h
    obtain ⟨c, e⟩ := ifb h
    exact ⟨c, e.symm⟩
/-- in -/
theorem in_plainS {pins : List (Addr × Obj)} {σ : L2.St} {H : Hp} {s : Shared} {L : List Addr} {G : Hp} {x y : V} {v u : Value} {a : D} {ys : List D} (hu : X.A.units + 120 < cLine) (I : Inv X pins σ H s) (fz : Fz L G H) (tx : RepT X.K G H x a)
    (ty : RepT X.K G H y (.lst ys) ∨ RepT X.K G H y (.tup ys)) (rx : RelV x v) (ry : RelV y u) (h : (plainD a && plainDs ys && decide ((toPy a).depth ≤ 100)) = true) {Q : Value → Shared → Prop} (neg : Bool) (q : Q (.bool (if neg then !(ys.any fun z => deq z a) else ys.any fun z => deq z a)) s) :
    wpAny (model X.prog X.w) X.A (compareOp (if neg then .NotIn else .In) v u) Q X.xe s := by
  simp only [Bool.and_eq_true, decide_eq_true_eq] at h
  obtain ⟨⟨pa, pb⟩, pd⟩ := h
  obtain ⟨as, ra⟩ := reads_of I fz tx pa rx
  have any_eq : (toPys ys).any (fun z => PyData.eqv z (toPy a)) = ys.any fun z => deq z a := by
    clear q ty pb
    induction ys with
    | nil => rfl
    | cons z zs ih => simp only [toPys, List.any_cons, ih, deq_eqv]
  have hm : X.A.units + 1 + min (PyData.depthAll (toPys ys)) (toPy a).depth < cLine := by
    have : min (PyData.depthAll (toPys ys)) (toPy a).depth ≤ 100 := by omega
    omega
  rcases ty with ty | ty
  · obtain ⟨bs, rb⟩ := reads_of I fz ty (by simpa [plainD] using pb) ry
    cases neg with
    | false => exact SeqAt.in_list_data rb ra (plains_toPy ys pb) (plain_toPy a pa) hm (by rw [any_eq]; exact q)
    | true => exact SeqAt.notIn_list_data rb ra (plains_toPy ys pb) (plain_toPy a pa) hm (by rw [any_eq]; exact q)
  · obtain ⟨bs, rb⟩ := reads_of I fz ty (by simpa [plainD] using pb) ry
    cases neg with
    | false => exact SeqAt.in_tuple_data rb ra (plains_toPy ys pb) (plain_toPy a pa) hm (by rw [any_eq]; exact q)
    | true => exact SeqAt.notIn_tuple_data rb ra (plains_toPy ys pb) (plain_toPy a pa) hm (by rw [any_eq]; exact q)
end
end PyI
end

section
set_option maxRecDepth 100000
set_option maxHeartbeats 4000000
namespace PyI
open PySem PySem.Spec PyProof.Rows L2
theorem ifo {α : Type} {c : Prop} [Decidable c] {o : Option α} {b : α} (h : (if c then o else none) = some b) : c ∧ o = some b := by
  by_cases hc : c
  · rw [if_pos hc] at h; exact ⟨hc, h⟩
  · rw [if_neg hc] at h; cases h
section
variable {X : Cx}
theorem dic_hits {pins : List (Addr × Obj)} {σ : L2.St} {H : Hp} {s : Shared} {L : List Addr} {G : Hp} (hu : X.A.units + 120 < cLine) (I : Inv X pins σ H s) (fz : Fz L G H) {kb : List (Key × V)} {vb : List (Key × Value)} {eb : List (Key × D)} (rb : RepK X.K G kb eb) (vb' : KV kb vb)
    (pb : (eb.all fun kv => plainD kv.2) = true) : ∀ {ka : List (Key × V)} {va : List (Key × Value)} {ea : List (Key × D)}, RepK X.K G ka ea → KV ka va → ((ea.all fun kv => plainD kv.2) = true) → ((ea.all fun kv => decide ((toPy kv.2).depth ≤ 100)) = true) →
    PySem.W.KeqHits X.A.in1 s vb va (ea.all fun kv => match dget eb kv.1 with | some y => deq kv.2 y | none => false)
  | _, _, _, .nil, .nil, _, _ => .nil
  | _, _, _, @RepK.cons _ _ k v d vs ds a b, .cons (b := ⟨k', u⟩) r t, pa, da => by
    simp only [List.all_cons, Bool.and_eq_true, decide_eq_true_eq] at pa da
    obtain ⟨rfl, ru⟩ := r
    have ih := dic_hits hu I fz rb vb' pb b t pa.2 da.2
    simp only [List.all_cons]
    rcases rb.get k with ⟨h1, h2⟩ | ⟨v', d', h1, h2, h3⟩
    · have hv : valueAt vb k = none := by
        have := vb'.val k
        rw [h1] at this
        exact this.none_of
      rw [h2]
      exact .miss hv
    · have hv := vb'.val k
      rw [h1] at hv
      obtain ⟨u', hu', ru'⟩ := hv.some_of
      rw [h2]
      refine .hit hu' ?_ ih
      have pd' : plainD d' = true := by
        unfold dget at h2
        cases q : eb.find? (fun kv => decide (kv.1 = k)) with
        | none => rw [q] at h2; cases h2
        | some p =>
          rw [q] at h2
          cases h2
          exact List.all_eq_true.mp pb p (List.mem_of_find?_eq_some q)
      obtain ⟨as, r1⟩ := reads_of I fz (a.toT fz) pa.1 ru
      obtain ⟨bs, r2⟩ := reads_of I fz (h3.toT fz) pd' ru'
      show SeqAt.EqAt _ s u u' (deq d d')
      rw [deq_eqv]
      refine SeqAt.eqAt_plain (toPy d) (toPy d') _ s u u' as bs r1 r2 (plain_toPy d pa.1) (plain_toPy d' pd') ?_
      have m : min (toPy d).depth (toPy d').depth ≤ 100 := by have := da.1; omega
      show X.A.in1.units + _ < cLine
      have : X.A.in1.units = X.A.units + 1 := rfl
      omega
theorem opS_eq (hu : X.A.units + 120 < cLine) : OpR X (compareOp .Eq) (rS X.K .eq) := by
  intro pins s σ H x y v u Q I rx ry h
  obtain ⟨L, G, dx, dy, d, fz, tx, ty, hs, k⟩ := h
  obtain ⟨b, hb, e⟩ := map_some (show (eqSem dx dy).map D.bl = some d from hs)
  subst e
  rcases eqSem_plain hb with ⟨p, q, rfl, rfl, rfl, c⟩ | ⟨c, rfl⟩
  · simp only [Bool.and_eq_true] at c
    obtain ⟨a, ks, rfl, ha, ra⟩ := tx
    obtain ⟨b, ls, rfl, hb, rb⟩ := ty
    cases rx; cases ry
    obtain ⟨z1, n1, va, r1, d1⟩ := dk_rd I.hok ha
    obtain ⟨z2, n2, vb, r2, d2⟩ := dk_rd I.hok hb
    refine PySem.W.keq_eq n1 n2 d1 d2 (by omega) (fun _ => dic_hits hu I fz rb r2 c.1.2 ra r1 c.1.1 c.2) ⟨.bl _, H, I, rfl, ?_⟩
    have e : (va.length == vb.length) = (p.length == q.length) := by rw [← r1.length, ← r2.length, ra.length, rb.length]
    rw [e]
    exact k _ G H (Step.refl fz) (Rep.bl _)
  · exact eq_plainS hu I fz tx ty rx ry c ⟨.bl _, H, I, rfl, k _ G H (Step.refl fz) (Rep.bl _)⟩
theorem opS_ne (hu : X.A.units + 120 < cLine) : OpR X (compareOp .NotEq) (rS X.K .ne) := by
  intro pins s σ H x y v u Q I rx ry h
  obtain ⟨L, G, dx, dy, d, fz, tx, ty, hs, k⟩ := h
  obtain ⟨b, hb, e⟩ := map_some (show (eqSem dx dy).map (fun k => D.bl (!k)) = some d from hs)
  subst e
  rcases eqSem_plain hb with ⟨p, q, rfl, rfl, rfl, c⟩ | ⟨c, rfl⟩
  · simp only [Bool.and_eq_true] at c
    obtain ⟨a, ks, rfl, ha, ra⟩ := tx
    obtain ⟨b, ls, rfl, hb, rb⟩ := ty
    cases rx; cases ry
    obtain ⟨z1, n1, va, r1, d1⟩ := dk_rd I.hok ha
    obtain ⟨z2, n2, vb, r2, d2⟩ := dk_rd I.hok hb
    refine PySem.W.keq_ne n1 n2 d1 d2 (by omega) (fun _ => dic_hits hu I fz rb r2 c.1.2 ra r1 c.1.1 c.2) ⟨.bl _, H, I, rfl, ?_⟩
    have e : (va.length == vb.length) = (p.length == q.length) := by rw [← r1.length, ← r2.length, ra.length, rb.length]
    rw [e]
    exact k _ G H (Step.refl fz) (Rep.bl _)
  · exact ne_plainS hu I fz tx ty rx ry c ⟨.bl _, H, I, rfl, k _ G H (Step.refl fz) (Rep.bl _)⟩
theorem in_inv {a b : D} {k : Bool} (h : inSem a b = some k) :
    (∃ ys, (b = .lst ys ∨ b = .tup ys) ∧ (plainD a && plainDs ys && decide ((toPy a).depth ≤ 100)) = true ∧ k = ys.any fun y => deq y a) ∨
    (∃ x y, a = .str x ∧ b = .str y ∧ k = strIn x y) ∨ ∃ kvs key, b = .dic kvs ∧ keyOf a = some key ∧ k = (dget kvs key).isSome := by
  cases b with
  | lst ys =>
    have h' : (if plainD a && plainDs ys && decide ((toPy a).depth ≤ 100) then some (ys.any fun y => deq y a) else none) = some k := by
      cases a <;> exact h
    obtain ⟨c, e⟩ := ifb h'
    exact .inl ⟨ys, .inl rfl, c, e.symm⟩
  | tup ys =>
    have h' : (if plainD a && plainDs ys && decide ((toPy a).depth ≤ 100) then some (ys.any fun y => deq y a) else none) = some k := by
      cases a <;> exact h
    obtain ⟨c, e⟩ := ifb h'
    exact .inl ⟨ys, .inr rfl, c, e.symm⟩
  | dic kvs =>
    have h' : (keyOf a).map (fun k => (dget kvs k).isSome) = some k := by
      cases a <;> exact h
    obtain ⟨key, hk, e⟩ := map_some h'
    exact .inr (.inr ⟨kvs, key, rfl, hk, e.symm⟩)
  | str y =>
    cases a with
    | str x => exact .inr (.inl ⟨x, y, rfl, rfl, (Option.some.inj h).symm⟩)
    | _ => simp [inSem] at h
  | non => cases a <;> simp [inSem] at h
  | bl => cases a <;> simp [inSem] at h
  | int => cases a <;> simp [inSem] at h
theorem keyT {K : PySem.W.Frag} {G H : Hp} {v : V} {d : D} {k : Key} (r : RepT K G H v d) (e : keyOf d = some k) : v = kV k := by
  cases d with
  | int i => cases e; exact r
  | str s => cases e; exact r
  | _ => cases e
theorem dgetT {K : PySem.W.Frag} {G H : Hp} {v : V} {kvs : List (Key × D)} {k : Key} (r : RepT K G H v (.dic kvs)) : ∃ a o, v = .ref a ∧ DGet H a (kV k) o ∧ o.isSome = (dget kvs k).isSome ∧ ∀ d, dget kvs k = some d → ∃ w, o = some w ∧ Rep K G w d := by
  obtain ⟨a, ks, rfl, h, rk⟩ := r
  refine ⟨a, valV ks k, rfl, .inl ⟨ks, k, h, rfl, rfl⟩, ?_, fun d e => ?_⟩
  · rcases rk.get k with ⟨h1, h2⟩ | ⟨v', d', h1, h2, h3⟩
    · rw [h1, h2]; rfl
    · rw [h1, h2]; rfl
  · rcases rk.get k with ⟨h1, h2⟩ | ⟨v', d', h1, h2, h3⟩
    · rw [h2] at e; cases e
    · rw [h2] at e; cases e; exact ⟨v', h1, h3⟩
theorem opS_in (hu : X.A.units + 120 < cLine) : OpR X (compareOp .In) (rS X.K .isin) := by
  intro pins s σ H x y v u Q I rx ry h
  obtain ⟨L, G, dx, dy, d, fz, tx, ty, hs, k⟩ := h
  obtain ⟨b, hb, e⟩ := map_some (show (inSem dx dy).map D.bl = some d from hs)
  subst e
  rcases in_inv hb with ⟨ys, e, c, rfl⟩ | ⟨p, q, rfl, rfl, rfl⟩ | ⟨kvs, key, rfl, hk, rfl⟩
  · exact in_plainS hu I fz tx (by rcases e with rfl | rfl; exact .inl ty; exact .inr ty) rx ry c false ⟨.bl _, H, I, rfl, k _ G H (Step.refl fz) (Rep.bl _)⟩
  · cases (show x = _ from tx); cases (show y = _ from ty)
    exact op_in_str pins s σ H _ _ v u Q I rx ry ⟨p, q, rfl, rfl, k _ G H (Step.refl fz) (Rep.bl _)⟩
  · cases keyT tx hk
    obtain ⟨a, o, rfl, g, e, _⟩ := dgetT (k := key) ty
    cases ry
    refine d_in (by omega) I g rx fun s' I' => ⟨.bl _, H, I', rfl, ?_⟩
    rw [e]
    exact k _ G H (Step.refl fz) (Rep.bl _)
theorem opS_notin (hu : X.A.units + 120 < cLine) : OpR X (compareOp .NotIn) (rS X.K .notin) := by
  intro pins s σ H x y v u Q I rx ry h
  obtain ⟨L, G, dx, dy, d, fz, tx, ty, hs, k⟩ := h
  obtain ⟨b, hb, e⟩ := map_some (show (inSem dx dy).map (fun k => D.bl (!k)) = some d from hs)
  subst e
  rcases in_inv hb with ⟨ys, e, c, rfl⟩ | ⟨p, q, rfl, rfl, rfl⟩ | ⟨kvs, key, rfl, hk, rfl⟩
  · exact in_plainS hu I fz tx (by rcases e with rfl | rfl; exact .inl ty; exact .inr ty) rx ry c true ⟨.bl _, H, I, rfl, k _ G H (Step.refl fz) (Rep.bl _)⟩
  · cases (show x = _ from tx); cases (show y = _ from ty)
    exact op_notIn_str pins s σ H _ _ v u Q I rx ry ⟨p, q, rfl, rfl, k _ G H (Step.refl fz) (Rep.bl _)⟩
  · cases keyT tx hk
    obtain ⟨a, o, rfl, g, e, _⟩ := dgetT (k := key) ty
    cases ry
    refine d_notIn (by omega) I g rx fun s' I' => ⟨.bl _, H, I', rfl, ?_⟩
    rw [e]
    exact k _ G H (Step.refl fz) (Rep.bl _)
/-! ### items -/
theorem atI_rep {K : PySem.W.Frag} {G : Hp} {xs : List V} {ds : List D} (r : RepL K G xs ds) {i : Int} {d : D} (h : atI ds i = some d) : ∃ v, atI xs i = some v ∧ Rep K G v d := by
  unfold atI at h ⊢
  rw [r.length]
  cases q : ixN ds.length i with
  | none => rw [q] at h; cases h
  | some j =>
    rw [q] at h
    exact r.get h
theorem PE.or {e : PySem.Expr} {t t' : TE} (h : PE X e t) (h' : PE X e t') : PE X e (fun σ H Q => t σ H Q ∨ t' σ H Q) :=
  ⟨fun pins s σ H Q I hw => hw.elim (h.run pins s σ H Q I) (h'.run pins s σ H Q I)⟩
theorem PE.imp {e : PySem.Expr} {t t' : TE} (h : PE X e t) (i : ∀ σ H Q, t' σ H Q → t σ H Q) : PE X e t' :=
  ⟨fun pins s σ H Q I hw => h.run pins s σ H Q I (i σ H Q hw)⟩
theorem PT.imp {e : PySem.Expr} {t t' : TT} (h : PT X e t) (i : ∀ σ H Q, t' σ H Q → t σ H Q) : PT X e t' :=
  ⟨fun pins s σ H Q I hw => h.run pins s σ H Q I (i σ H Q hw)⟩
theorem PS.imp {e : Stmt} {t t' : TS} (h : PS X e t) (i : ∀ D σ H, t' D σ H → t D σ H) : PS X e t' :=
  ⟨fun pins s σ H D I hw => h.run pins s σ H D I (i D σ H hw)⟩
theorem PSs.imp {e : List Stmt} {t t' : TS} (h : PSs X e t) (i : ∀ D σ H, t' D σ H → t D σ H) : PSs X e t' :=
  ⟨fun pins s σ H D I hw => h.run pins s σ H D I (i D σ H hw)⟩
theorem PA.imp {e : List PySem.Expr} {t t' : TA} (h : PA X e t) (i : ∀ σ H Q, t' σ H Q → t σ H Q) : PA X e t' :=
  ⟨fun pos pins s σ H Q I hw => h.run pos pins s σ H Q I (i σ H Q hw)⟩
/-- lists, tuples, texts -/
theorem ixS_seq {K : PySem.W.Frag} {x y : V} {H : Hp} {Q : VK} {L : List Addr} {G : Hp} {dx dy d : D} (fz : Fz L G H) (tx : RepT K G H x dx) (ty : RepT K G H y dy) (hs : ixSem dx dy = some d) (hd : ∀ kvs, dx ≠ .dic kvs)
    (k : ∀ v G' H', Step L G H G' H' → Rep K G' v d → Q v H') : rIx K x y H Q := by
  cases dx with
  | lst ds =>
    cases dy with
    | int i =>
      cases (show y = _ from ty)
      obtain ⟨a, xs, rfl, h, r⟩ := tx
      obtain ⟨v, h1, h2⟩ := atI_rep r (show atI ds i = some d from hs)
      exact .inl ⟨a, xs, i, v, rfl, rfl, h, h1, k v G H (Step.refl fz) h2⟩
    | _ => cases hs
  | tup ds =>
    cases dy with
    | int i =>
      cases (show y = _ from ty)
      cases tx with
      | @tup a xs _ h r =>
        obtain ⟨v, h1, h2⟩ := atI_rep r (show atI ds i = some d from hs)
        exact .inr (.inl ⟨a, xs, i, v, rfl, rfl, fz.sqT h.sq, h1, k v G H (Step.refl fz) h2⟩)
    | _ => cases hs
  | str z =>
    cases dy with
    | int i =>
      cases (show y = _ from ty)
      cases (show x = _ from tx)
      obtain ⟨c, e⟩ := ifo (show (if z.length ≤ BIG then (L2.atI z.cps.toList i).map (fun c => D.str ⟨#[c]⟩) else none) = some d from hs)
      obtain ⟨ch, h1, rfl⟩ := map_some e
      exact .inr (.inr ⟨z, i, ch, rfl, rfl, Nat.le_trans c BIG_line, h1, k _ G H (Step.refl fz) (Rep.str _)⟩)
    | _ => cases hs
  | dic kvs => exact absurd rfl (hd kvs)
  | _ => cases dy <;> cases hs
end
end PyI
end

section
set_option maxRecDepth 100000
set_option maxHeartbeats 4000000
namespace PyI
open PySem PySem.Spec PyProof.Rows L2
def freshOp1 : Op1 → Bool
  | .sorted_ => true
  | .sitems => true
  | .srev => true
  | .ssort => true
  | .list_ => true
  | .dict_ => true
  | _ => false
def r1 (K : PySem.W.Frag) (o : Op1) : List V → Hp → VK → Prop := fun xs H Q => ∃ L G x dx d, xs = [x] ∧ Fz L G H ∧ RepT K G H x dx ∧ sem1 o dx = some d ∧
  ∀ v G' H', Step L G H G' H' → PostB K (freshOp1 o) G' H H' v d → Q v H'
def r2c (K : PySem.W.Frag) (o : Op2) : List V → Hp → VK → Prop := fun xs H Q => ∃ L G x y dx dy d, xs = [x, y] ∧ Fz L G H ∧ RepT K G H x dx ∧ RepT K G H y dy ∧ sem2 o dx dy = some d ∧
  ∀ v G' H', Step L G H G' H' → Rep K G' v d → Q v H'
section
variable {X : Cx}
theorem c_len : CallR X (.builtin "len") (r1 X.K .len) := by
  intro pins s σ H vs us Q I r h
  obtain ⟨L, G, x, dx, d, rfl, fz, tx, hs, k⟩ := h
  cases dx with
  | str z =>
    obtain ⟨c, e⟩ := ifs (show (if z.length ≤ BIG then some (D.int z.length) else none) = some d from hs)
    subst e
    cases (show x = _ from tx)
    exact call_len pins s σ H _ us Q I r ⟨_, _, rfl, ⟨Nat.le_trans c BIG_line, rfl⟩, k _ G H (Step.refl fz) (Rep.int _)⟩
  | tup ds =>
    cases hs
    cases tx with
    | @tup a xs _ h rr =>
      refine call_len pins s σ H _ us Q I r ⟨_, xs.length, rfl, .inr ⟨xs, fz.sqT h.sq, rfl⟩, ?_⟩
      rw [rr.length]
      exact k _ G H (Step.refl fz) (Rep.int _)
  | lst ds =>
    cases hs
    obtain ⟨a, xs, rfl, h, rr⟩ := tx
    refine call_len pins s σ H _ us Q I r ⟨_, xs.length, rfl, .inl ⟨xs, h, rfl⟩, ?_⟩
    rw [rr.length]
    exact k _ G H (Step.refl fz) (Rep.int _)
  | dic es =>
    cases hs
    obtain ⟨a, ks, rfl, h, rr⟩ := tx
    obtain ⟨u, rfl, rx⟩ := vals1 r
    cases rx
    refine d_len I h fun t s' I' => ⟨.int _, H, I', ⟨_, rfl⟩, ?_⟩
    rw [rr.length]
    exact k _ G H (Step.refl fz) (Rep.int _)
  | _ => cases hs
theorem c_all (hc : X.calm = true) : CallR X (.builtin "all") (r1 X.K .all_) := by
  intro pins s σ H vs us Q I r h
  obtain ⟨L, G, x, dx, d, rfl, fz, tx, hs, k⟩ := h
  cases dx with
  | lst ds =>
    obtain ⟨bs, hb, rfl⟩ := map_some hs
    obtain ⟨a, xs, rfl, h, rr⟩ := tx
    have e := rr.boolsD hb
    subst e
    exact cr_all hc pins s σ H _ us Q I r ⟨a, bs, rfl, h, k _ G H (Step.refl fz) (Rep.bl _)⟩
  | _ => cases hs
theorem c_any (hc : X.calm = true) : CallR X (.builtin "any") (r1 X.K .any_) := by
  intro pins s σ H vs us Q I r h
  obtain ⟨L, G, x, dx, d, rfl, fz, tx, hs, k⟩ := h
  cases dx with
  | lst ds =>
    obtain ⟨bs, hb, rfl⟩ := map_some hs
    obtain ⟨a, xs, rfl, h, rr⟩ := tx
    have e := rr.boolsD hb
    subst e
    exact cr_any hc pins s σ H _ us Q I r ⟨a, bs, rfl, h, k _ G H (Step.refl fz) (Rep.bl _)⟩
  | _ => cases hs
theorem c_sum (hc : X.calm = true) : CallR X (.builtin "sum") (r1 X.K .sum_) := by
  intro pins s σ H vs us Q I r h
  obtain ⟨L, G, x, dx, d, rfl, fz, tx, hs, k⟩ := h
  cases dx with
  | lst ds =>
    obtain ⟨bs, hb, rfl⟩ := map_some hs
    obtain ⟨a, xs, rfl, h, rr⟩ := tx
    have e := rr.intsD hb
    subst e
    exact cr_sum hc pins s σ H _ us Q I r ⟨a, bs, rfl, h, k _ G H (Step.refl fz) (Rep.int _)⟩
  | _ => cases hs
theorem maxI_max : ∀ (x : Int) (r : List Int), maxI (x :: r) ∈ x :: r ∧ ∀ y, y ∈ x :: r → y ≤ maxI (x :: r)
  | x, [] => by simp [maxI]
  | x, y :: r => by
    obtain ⟨h1, h2⟩ := maxI_max y r
    simp only [maxI]
    split
    · rename_i hc
      refine ⟨List.mem_cons_of_mem _ h1, fun z hz => ?_⟩
      rcases List.mem_cons.mp hz with rfl | hz
      · omega
      · exact h2 z hz
    · rename_i hc
      refine ⟨List.mem_cons_self, fun z hz => ?_⟩
      rcases List.mem_cons.mp hz with rfl | hz
      · omega
      · have := h2 z hz; omega
theorem minI_min : ∀ (x : Int) (r : List Int), minI (x :: r) ∈ x :: r ∧ ∀ y, y ∈ x :: r → minI (x :: r) ≤ y
  | x, [] => by simp [minI]
  | x, y :: r => by
    obtain ⟨h1, h2⟩ := minI_min y r
    simp only [minI]
    split
    · rename_i hc
      refine ⟨List.mem_cons_of_mem _ h1, fun z hz => ?_⟩
      rcases List.mem_cons.mp hz with rfl | hz
      · omega
      · exact h2 z hz
    · rename_i hc
      refine ⟨List.mem_cons_self, fun z hz => ?_⟩
      rcases List.mem_cons.mp hz with rfl | hz
      · omega
      · have := h2 z hz; omega
theorem c_max (hc : X.calm = true) : CallR X (.builtin "max") (r1 X.K .max_) := by
  intro pins s σ H vs us Q I r h
  obtain ⟨L, G, x, dx, d, rfl, fz, tx, hs, k⟩ := h
  cases dx with
  | lst ds =>
    obtain ⟨a, xs, rfl, h, rr⟩ := tx
    cases hi : intsD ds with
    | none => simp [sem1, hi] at hs
    | some is =>
      cases is with
      | nil => simp [sem1, hi] at hs
      | cons z r' =>
        have e := rr.intsD hi
        subst e
        simp [sem1, hi] at hs
        subst hs
        refine cr_max hc pins s σ H _ us Q I r ⟨a, z :: r', rfl, h, by simp, fun m hm hm2 => ?_⟩
        obtain ⟨p1, p2⟩ := maxI_max z r'
        have : m = maxI (z :: r') := by
          have := hm2 _ p1
          have := p2 _ hm
          omega
        subst this
        exact k _ G H (Step.refl fz) (Rep.int _)
  | _ => cases hs
theorem c_min (hc : X.calm = true) : CallR X (.builtin "min") (r1 X.K .min_) := by
  intro pins s σ H vs us Q I r h
  obtain ⟨L, G, x, dx, d, rfl, fz, tx, hs, k⟩ := h
  cases dx with
  | lst ds =>
    obtain ⟨a, xs, rfl, h, rr⟩ := tx
    cases hi : intsD ds with
    | none => simp [sem1, hi] at hs
    | some is =>
      cases is with
      | nil => simp [sem1, hi] at hs
      | cons z r' =>
        have e := rr.intsD hi
        subst e
        simp [sem1, hi] at hs
        subst hs
        refine cr_min hc pins s σ H _ us Q I r ⟨a, z :: r', rfl, h, by simp, fun m hm hm2 => ?_⟩
        obtain ⟨p1, p2⟩ := minI_min z r'
        have : m = minI (z :: r') := by
          have := hm2 _ p1
          have := p2 _ hm
          omega
        subst this
        exact k _ G H (Step.refl fz) (Rep.int _)
  | _ => cases hs
theorem tuple_of_list {pins : List (Addr × Obj)} {σ : L2.St} {H : Hp} {s : Shared} {p : Addr} {ys : List V} {Q : VK} (I : Inv X pins σ H s) (hq : SqL X.K H p ys) (q : ∀ l its, H l = none → Q (.ref l) (upd H l (.frz (tupObj its) (.tup ys)))) :
    wpAny (model X.prog X.w) X.A (call (.type "tuple") [.ref p]) (EP X pins σ Q) X.xe s := by
  obtain ⟨its, r', pl, hz⟩ := I.list hq
  have hlen := r'.length
  refine call_tuple_list pl.isList (fun h' kp => ?_) (by simp only [List.size_toArray] <;> omega)
  have I1 : Inv X pins σ H { s with heap := h' } := I.kept (t' := s.toks) kp
  exact ⟨.ref h'.objs.size, _, Inv.newTup I1 r' hz s.toks, rfl, q _ _ (I1.hok.fresh (Nat.le_refl _))⟩
theorem c_tuple : CallR X (.type "tuple") (r1 X.K .tuple_) := by
  intro pins s σ H vs us Q I r h
  obtain ⟨L, G, x, dx, d, rfl, fz, tx, hs, k⟩ := h
  cases dx with
  | lst ds =>
    cases hs
    obtain ⟨a, xs, rfl, h, rr⟩ := tx
    obtain ⟨u, rfl, rx⟩ := vals1 r
    cases rx
    exact tuple_of_list I h fun p its hp => new_tup fz rr (fun v G' H' s r => k v G' H' s r) its hp
  | tup ds =>
    cases hs
    cases id tx with
    | @tup a xs _ h rr =>
      exact call_tuple_of pins s σ H _ us Q I r ⟨a, xs, rfl, .inr ⟨fz.sqT h.sq, k _ G H (Step.refl fz) tx⟩⟩
  | _ => cases hs
theorem c_list (hc : X.calm = true) : CallR X (.type "list") (r1 X.K .list_) := by
  intro pins s σ H vs us Q I r h
  obtain ⟨L, G, x, dx, d, rfl, fz, tx, hs, k⟩ := h
  cases dx with
  | lst ds =>
    cases hs
    obtain ⟨a, xs, rfl, h, rr⟩ := tx
    exact call_list_of pins s σ H _ us Q I r ⟨a, xs, rfl, .inl h, fun p hp => new_lst fz rr k hp⟩
  | tup ds =>
    cases hs
    cases id tx with
    | @tup a xs _ h rr =>
      exact call_list_of pins s σ H _ us Q I r ⟨a, xs, rfl, .inr (fz.sqT h.sq), fun p hp => new_lst fz rr k hp⟩
  | dic es =>
    cases hs
    obtain ⟨a, ks, rfl, h, rr⟩ := tx
    exact call_listD hc pins s σ H _ us Q I r ⟨a, ks, rfl, h, fun p hp => new_lst fz rr.keys k hp⟩
  | _ => cases hs
theorem c_int : CallR X (.type "int") (r1 X.K .int_) := by
  intro pins s σ H vs us Q I r h
  obtain ⟨L, G, x, dx, d, rfl, fz, tx, hs, k⟩ := h
  cases dx with
  | int i =>
    cases hs; cases (show x = _ from tx)
    exact call_int1 pins s σ H _ us Q I r (.inl ⟨_, rfl, k _ G H (Step.refl fz) (Rep.int _)⟩)
  | bl b =>
    cases hs; cases (show x = _ from tx)
    exact call_int1 pins s σ H _ us Q I r (.inr ⟨_, rfl, k _ G H (Step.refl fz) (Rep.int _)⟩)
  | _ => cases hs
theorem c_str : CallR X (.type "str") (r1 X.K .str_) := by
  intro pins s σ H vs us Q I r h
  obtain ⟨L, G, x, dx, d, rfl, fz, tx, hs, k⟩ := h
  cases dx with
  | int i =>
    obtain ⟨c, e⟩ := ifs (show (if i.natAbs.log2 < 1920 then some (D.str (toString i)) else none) = some d from hs)
    subst e
    cases (show x = _ from tx)
    exact call_str_int pins s σ H _ us Q I r ⟨_, rfl, c, k _ G H (Step.refl fz) (Rep.str _)⟩
  | _ => cases hs
theorem c_max2 (hc : X.calm = true) : CallR X (.builtin "max") (r2c X.K .max2) := by
  intro pins s σ H vs us Q I r h
  obtain ⟨L, G, x, y, dx, dy, d, rfl, fz, tx, ty, hs, k⟩ := h
  cases dx <;> cases dy <;> first | (simp [sem2] at hs; done) | skip
  case int.int i j =>
    cases hs; cases (show x = _ from tx); cases (show y = _ from ty)
    exact call_max2 hc pins s σ H _ us Q I r ⟨_, _, rfl, k _ G H (Step.refl fz) (Rep.int _)⟩
theorem c_min2 (hc : X.calm = true) : CallR X (.builtin "min") (r2c X.K .min2) := by
  intro pins s σ H vs us Q I r h
  obtain ⟨L, G, x, y, dx, dy, d, rfl, fz, tx, ty, hs, k⟩ := h
  cases dx <;> cases dy <;> first | (simp [sem2] at hs; done) | skip
  case int.int i j =>
    cases hs; cases (show x = _ from tx); cases (show y = _ from ty)
    exact call_min2 hc pins s σ H _ us Q I r ⟨_, _, rfl, k _ G H (Step.refl fz) (Rep.int _)⟩
/-! dict(..) -/
theorem pairsK_rep {K : PySem.W.Frag} {L : List Addr} {G H : Hp} (fz : Fz L G H) : ∀ {xs : List V} {ds : List D} {es : List (Key × D)}, RepL K G xs ds → pairsK ds = some es →
    ∃ (ps : List Addr) (kvs : List (Key × V)), xs = ps.map V.ref ∧ Paired (fun p kv => SqT K H p [kV kv.1, kv.2]) ps kvs ∧ RepK K G kvs es
  | _, [], es, .nil, h => by
    cases h
    exact ⟨[], [], rfl, .nil, .nil⟩
  | _, d :: ds, es, .cons a b, h => by
    cases d with
    | tup xs =>
      match xs, h with
      | [kk, v], h =>
        unfold pairsK at h
        cases hk : keyOf kk with
        | none => rw [hk] at h; simp at h
        | some k =>
          cases hr : pairsK ds with
          | none => rw [hk, hr] at h; simp at h
          | some r =>
            rw [hk, hr] at h
            cases h
            obtain ⟨ps, kvs, e, p, rr⟩ := pairsK_rep fz b hr
            cases a with
            | @tup a xs _ hq rl =>
              cases rl with
              | cons r1 r2 =>
                cases r2 with
                | cons r2 r3 =>
                  cases r3
                  have e1 := r1.key hk
                  subst e1
                  refine ⟨a :: ps, _ :: kvs, by rw [e]; rfl, .cons ?_ p, .cons r2 rr⟩
                  exact fz.sqT hq.sq
      | [], h => exact nomatch h
      | [_], h => exact nomatch h
      | _ :: _ :: _ :: _, h => exact nomatch h
    | _ => exact nomatch h
theorem merge_rep {K : PySem.W.Frag} {G : Hp} : ∀ {es : List (Key × D)} {kvs : List (Key × V)} {acc : List (Key × V)} {acd : List (Key × D)}, RepK K G kvs es → RepK K G acc acd → RepK K G (mergeK acc kvs) (mergeD acd es) := by
  intro es
  induction es with
  | nil => intro kvs acc acd h r; cases h; exact r
  | cons e es ih =>
    intro kvs acc acd h r
    cases h with
    | @cons k v d vs _ a b => exact ih (kvs := vs) (acc := putK acc k v) b (r.put a)
theorem pairs_of2 {pins : List (Addr × Obj)} {σ : L2.St} {H : Hp} {s : Shared} (I : Inv X pins σ H s) : ∀ {ps : List Addr} {kvs : List (Key × V)}, Paired (fun p kv => SqT X.K H p [kV kv.1, kv.2]) ps kvs →
    ∃ (prs : List (Key × Value)) (prv : List (Value × Value)), KV kvs prs ∧ prs.length = ps.length ∧ prv.length = ps.length ∧ ∀ (j : Nat) (b : Addr), ps[j]? = some b → ∃ (k : Key) (u y : Value), prs[j]? = some (k, y) ∧ prv[j]? = some (u, y) ∧ IsTup s.heap b #[u, y] ∧ keyIs k u = true
  | _, _, .nil => ⟨[], [], .nil, rfl, rfl, fun j q e => by simp at e⟩
  | _, _, .cons (a := p) (b := kv) h t => by
    obtain ⟨prs, prv, r, hl, hl2, hp⟩ := pairs_of2 I t
    obtain ⟨its, rv, ht, _⟩ := I.tuple h
    obtain ⟨u, y, ei, ru, ry⟩ := vals2 rv
    subst ei
    refine ⟨(kv.1, y) :: prs, (u, y) :: prv, .cons ⟨rfl, ry⟩ r, by simp [hl], by simp [hl2], fun j b e => ?_⟩
    cases j with
    | zero =>
      have e' : p = b := by simpa using e
      subst e'
      exact ⟨kv.1, u, y, rfl, rfl, ht, kV_is (P := X.prog) (w := X.w) ru⟩
    | succ j =>
      obtain ⟨k, u', y', e1, e2, e3, e4⟩ := hp j b (by simpa using e)
      exact ⟨k, u', y', by simpa using e1, by simpa using e2, e3, e4⟩
theorem call_dictPT (hcalm : X.calm = true) : CallR X (.type "dict") (fun xs H Q => ∃ (a : Addr) (ps : List Addr) (kvs : List (Key × V)), xs = [.ref a] ∧ TupN X.K H a (ps.map V.ref) ∧ Paired (fun p kv => SqT X.K H p [kV kv.1, kv.2]) ps kvs ∧
    ∀ p, H p = none → Q (.ref p) (upd H p (.dK (mergeK [] kvs)))) := by
  intro pins s σ H xs us Q I r q
  obtain ⟨a, ps, kvs, ex, hq, hp, q⟩ := q
  subst ex
  obtain ⟨u, eu, rx⟩ := vals1 r
  subst eu
  cases rx
  obtain ⟨its, o, n, rv, ho, hc, hd, hdat, hz⟩ := tupN_is I hq
  have ei := refs_at rv
  subst ei
  rw [List.length_map] at hz
  obtain ⟨prs, prv, rel, hl, hl2, hpr⟩ := pairs_of2 I hp
  have P := PairArg.tuple (prog := X.prog) (w := X.w) a ((ps.map Value.ref).toArray) (fun j => ps.getD j 0) prv
  refine PySem.call_dict_pairs (knd := mixKind X.prog X.w) (kvs := prs) P (I.ok.hd hcalm) ⟨⟨o, n, ho, hc, hd, hdat⟩, by simp [hl2], fun j k v e => ?_⟩ ⟨by rw [hl, hl2], fun i key v hrel => ?_⟩ (by rw [hl2]; exact hz) fun h' tk hd' k => ?_
  · have hj : j < ps.length := by rw [← hl2]; exact (List.getElem?_eq_some_iff.mp e).1
    obtain ⟨k', u, y, e1, e2, e3, e4⟩ := hpr j _ (List.getElem?_eq_getElem hj)
    rw [e2] at e
    cases e
    have eg : ps.getD j 0 = ps[j] := by simp [List.getD, List.getElem?_eq_getElem hj]
    show _ = some (Value.ref (ps.getD j 0)) ∧ PairAt _ (ps.getD j 0) _ _
    rw [eg]
    exact ⟨by simp [List.getElem?_eq_getElem hj], .inl e3⟩
  · have hi : i < ps.length := by rw [← hl2]; exact (List.getElem?_eq_some_iff.mp hrel).1
    obtain ⟨k', u, y, e1, e2, e3, e4⟩ := hpr i _ (List.getElem?_eq_getElem hi)
    have hrel' : prv[i]? = some (key, v) := hrel
    rw [e2] at hrel'
    cases hrel'
    exact ⟨k', e1, e4⟩
  · have hm : (s.heap.objs.size == sysModules) = false := beq_eq_false_iff_ne.mpr (Nat.ne_of_gt I.big)
    have hlen : (mergeK [] kvs).length ≤ sizeLine := by
      refine Nat.le_trans (length_mergeK kvs []) ?_
      rw [List.length_nil, Nat.zero_add, rel.length, hl]
      exact hz
    exact ⟨.ref s.heap.objs.size, upd H s.heap.objs.size (.dK (mergeK [] kvs)), I.laid (t' := tk) (fun b o e => k b o (by simp) e) (Nat.le_refl _) (show ObjOk X.prog X.w _ _ _ (.dK (mergeK [] kvs)) from ⟨hlen, hm, merged [] prs, KV.merge rel .nil, hd'⟩), rfl, q _ (I.hok.fresh (Nat.le_refl _))⟩
theorem c_dict (hc : X.calm = true) : CallR X (.type "dict") (r1 X.K .dict_) := by
  intro pins s σ H vs us Q I r h
  obtain ⟨L, G, x, dx, d, rfl, fz, tx, hs, k⟩ := h
  cases dx with
  | dic es =>
    cases hs
    obtain ⟨a, ks, rfl, h, rr⟩ := tx
    exact call_dictD pins s σ H _ us Q I r ⟨a, ks, rfl, h, fun p hp => new_dic fz rr k hp⟩
  | lst ds =>
    obtain ⟨es, hb, rfl⟩ := map_some hs
    obtain ⟨a, xs, rfl, h, rr⟩ := tx
    obtain ⟨ps, kvs, rfl, hp, rk⟩ := pairsK_rep fz rr hb
    exact call_dictP hc pins s σ H _ us Q I r ⟨a, ps, kvs, rfl, h, hp, fun p hp => new_dic fz (merge_rep rk .nil) k hp⟩
  | tup ds =>
    obtain ⟨es, hb, rfl⟩ := map_some hs
    cases id tx with
    | @tup a xs _ h rr =>
      obtain ⟨ps, kvs, rfl, hp, rk⟩ := pairsK_rep fz rr hb
      exact call_dictPT hc pins s σ H _ us Q I r ⟨a, ps, kvs, rfl, fz.tupN h, hp, fun p hp => new_dic fz (merge_rep rk .nil) k hp⟩
  | _ => cases hs
end
end PyI
end

section
set_option maxRecDepth 100000
set_option maxHeartbeats 4000000
namespace PyI
open PySem PySem.Spec PyProof.Rows L2
section
variable {X : Cx}
/-- a value and the data for which it stands -/
def VRel (K : PySem.W.Frag) (G : Hp) (u : Value) (d : D) : Prop := ∃ x, RelV x u ∧ Rep K G x d
theorem each_of {K : PySem.W.Frag} {G : Hp} : ∀ {xs : List V} {us : List Value} {ds : List D}, Vals xs us → RepL K G xs ds → PySem.W.EachIs (VRel K G) us ds
  | _, _, _, .nil, .nil => .nil
  | _, _, _, .cons r t, .cons a b => .cons ⟨_, r, a⟩ (each_of t b)
theorem of_each {K : PySem.W.Frag} {G : Hp} : ∀ {us : List Value} {ds : List D}, PySem.W.EachIs (VRel K G) us ds → ∃ xs, Vals xs us ∧ RepL K G xs ds
  | _, _, .nil => ⟨[], .nil, .nil⟩
  | _, _, .cons ⟨x, r, a⟩ t => by
    obtain ⟨xs, h1, h2⟩ := of_each t
    exact ⟨x :: xs, .cons r h1, .cons a h2⟩
theorem sortOk_spec {ds : List D} (h : sortOk ds = true) : PySem.W.AllAlike (ds.map toPy) ∧ PySem.W.Sortable (ds.map toPy) ∧ ∀ d ∈ ds, plainD d = true ∧ (toPy d).depth ≤ 50 := by
  unfold sortOk at h
  simp only [Bool.and_eq_true, Bool.or_eq_true, List.all_eq_true, decide_eq_true_eq] at h
  obtain ⟨⟨h1, h2⟩, h3⟩ := h
  refine ⟨fun d hd d' hd' => ?_, ?_, h3⟩
  · obtain ⟨a, ha, rfl⟩ := List.mem_map.mp hd
    obtain ⟨b, hb, rfl⟩ := List.mem_map.mp hd'
    exact h1 a ha b hb
  · rcases h2 with h2 | h2
    · left
      intro d hd
      obtain ⟨a, ha, rfl⟩ := List.mem_map.mp hd
      have := h2 a ha
      cases a with
      | tup xs =>
        cases xs with
        | nil => simp at this
        | cons x r => exact ⟨toPy x, toPys r, by simp [toPy, toPys]⟩
      | _ => simp at this
    · right
      intro d hd
      obtain ⟨a, ha, rfl⟩ := List.mem_map.mp hd
      have := h2 a ha
      cases a with
      | tup xs => simp at this
      | non => simp at this
      | _ => simp [toPy]
theorem each_reads {pins : List (Addr × Obj)} {σ : L2.St} {H : Hp} {s : Shared} {L : List Addr} {G : Hp} (I : Inv X pins σ H s) (fz : Fz L G H) {h' : Heap} (hk : ∀ b o, s.heap.get? b = some o → h'.get? b = some o) :
    ∀ {us : List Value} {ds : List D}, PySem.W.EachIs (VRel X.K G) us ds → (∀ d ∈ ds, plainD d = true) → PySem.W.EachIs (fun v b => ∃ as, Reads h' v (toPy b) as) us ds
  | _, _, .nil, _ => .nil
  | _, _, .cons ⟨x, r, a⟩ t, hp => by
    obtain ⟨as, ra⟩ := reads_of I fz (a.toT fz) (hp _ List.mem_cons_self) r
    exact .cons ⟨as, PyProof.Rows.Reads.keeps hk ra⟩ (each_reads I fz hk t fun d hd => hp d (List.mem_cons_of_mem _ hd))
theorem sorted_anyP {pins : List (Addr × Obj)} {σ : L2.St} {H : Hp} {s : Shared} {L : List Addr} {G : Hp} {Pd : List D → Prop} {u : Value} {Q : VK} (hu : X.A.units + 120 < cLine) (okP : ∀ ds, Pd ds → sortOk ds = true ∧ ds.length ≤ sizeLine)
    (hcol : ∀ (R : List Value → Shared → Prop) (E : Value → Shared → Prop), (∀ s' us xs ds G' H', Pd ds → Inv X pins σ H' s' → Vals xs us → RepL X.K G' xs ds → Step L G H G' H' → R us s') → wpAny (model X.prog X.w) X.A.in1 (collect u) R E s)
    (k : ∀ ds, Pd ds → ∀ v G' H', Step L G H G' H' → ResF X.K G' H H' v (.lst (ds.mergeSort (PySem.W.dataLe false toPy))) → Q v H') :
    wpAny (model X.prog X.w) X.A (call (.builtin "sorted") [u]) (EP X pins σ Q) X.xe s := by
  refine Calls.call_function_entry PyProof.Rows.kind_sorted PyProof.Rows.plain_sorted PyProof.Rows.entry_sorted (PyProof.Rows.args_sorted1 _) ?_
  unfold Builtin.«sorted»
  refine wpAny_bind (m := checkCount "sorted" 1 1 _) (wpAny_pure ?_)
  refine wpAny_bind (hcol _ _ fun s1 us xs ds G1 H1 hPd I1 rv rr st => ?_)
  obtain ⟨ok, hz⟩ := okP ds hPd
  obtain ⟨al, so, hd⟩ := sortOk_spec ok
  have hlen : us.length = ds.length := by rw [← rv.length, rr.length]
  refine wpAny_bind (wpAny_newList ?_ (by rw [hlen]; exact hz))
  have hoL : (s1.heap.push (seqObj "list" us.toArray 0)).get? s1.heap.objs.size = some (seqObj "list" us.toArray 0) := Heap.get?_push_size _ rfl
  show wpAny _ _ _ _ _ { s1 with heap := s1.heap.push (seqObj "list" us.toArray 0) }
  have old : ∀ b o, s1.heap.get? b = some o → (PySem.W.sortingHeap (s1.heap.push (seqObj "list" us.toArray 0)) s1.heap.objs.size us).get? b = some o := fun b o e =>
    PySem.W.sortingHeap_old (Nat.ne_of_lt (Heap.lt_size e)) (Heap.get?_push_of_some _ e)
  have ea := each_of rv rr
  have er := each_reads I1 st.fz old ea fun d hm => (hd d hm).1
  have S : PySem.W.SortsAt X.prog X.w X.A.in1.in1 { s1 with heap := PySem.W.sortingHeap (s1.heap.push (seqObj "list" us.toArray 0)) s1.heap.objs.size us } (PySem.W.dataKind (PySem.W.sortingHeap (s1.heap.push (seqObj "list" us.toArray 0)) s1.heap.objs.size us) (ds.map toPy)) us :=
    PySem.W.SortsAt.data (s := { s1 with heap := PySem.W.sortingHeap (s1.heap.push (seqObj "list" us.toArray 0)) s1.heap.objs.size us }) (PySem.W.each_map (R := fun v d => ∃ as, Reads (PySem.W.sortingHeap (s1.heap.push (seqObj "list" us.toArray 0)) s1.heap.objs.size us) v d as) toPy er) al so
      (PySem.W.bound_map fun b hb => by
        have := (hd b hb).2
        show X.A.units + 1 + 1 + _ < cLine
        omega)
  refine wpAny_bind (wpAny_holding (wpAny_call_entry PyProof.Rows.slot_list_sort ⟨_, hoL, rfl⟩ PyProof.Rows.entry_list_sort
    (PySem.W.list_sort_vals (s := { s1 with heap := s1.heap.push (seqObj "list" us.toArray 0) }) hoL S (by rw [hlen]; exact hz) ⟨_, rfl, ?_⟩) (PyProof.Rows.args_list_sort _)))
  have eo := PySem.W.sortVals_data (enc := toPy) false ea er al
  obtain ⟨ys, v1, v2⟩ := of_each eo
  have hol : ys.length = ds.length := by rw [v2.length, (List.mergeSort_perm _ _).length_eq]
  obtain ⟨ep, he'⟩ := PyProof.Rows.sortedHeap_at (vs := us) (out := (PySem.W.sortVals (PySem.W.dataKind (PySem.W.sortingHeap (s1.heap.push (seqObj "list" us.toArray 0)) s1.heap.objs.size us) (ds.map toPy)) false us us).toArray) hoL
  have I2 : Inv X pins σ (upd H1 s1.heap.objs.size (.lst ys)) { s1 with heap := PyProof.Rows.sortedHeap (s1.heap.push (seqObj "list" us.toArray 0)) s1.heap.objs.size us (PySem.W.sortVals (PySem.W.dataKind (PySem.W.sortingHeap (s1.heap.push (seqObj "list" us.toArray 0)) s1.heap.objs.size us) (ds.map toPy)) false us us).toArray } := by
    refine I1.laid (t' := s1.toks) (fun b u e => ?_) (Nat.le_refl _) (show ObjOk X.prog X.w _ _ _ (.lst ys) from ⟨by rw [hol]; exact hz, _, ep, v1, he'⟩)
    have hb : b < s1.heap.objs.size := Heap.lt_size e
    rw [PyProof.Rows.sortedHeap_old (Nat.ne_of_lt hb) (by rw [size_push']; exact Nat.lt_succ_of_lt hb)]
    exact Heap.get?_push_of_some _ e
  have hp : H1 s1.heap.objs.size = none := I1.hok.fresh (Nat.le_refl _)
  refine wpAny_pure ⟨_, rfl, .ref s1.heap.objs.size, _, I2, rfl, ?_⟩
  exact k ds hPd _ G1 _ (st.trans (Step.new st.fz hp)) ⟨_, rfl, st.fz.ne hp, fresh_back st.hh hp, ys, upd_same, v2⟩
theorem sorted_any {pins : List (Addr × Obj)} {σ : L2.St} {H : Hp} {s : Shared} {L : List Addr} {G : Hp} {ds : List D} {u : Value} {Q : VK} (hu : X.A.units + 120 < cLine) (ok : sortOk ds = true) (hz : ds.length ≤ sizeLine)
    (hcol : ∀ (R : List Value → Shared → Prop) (E : Value → Shared → Prop), (∀ s' us xs G' H', Inv X pins σ H' s' → Vals xs us → RepL X.K G' xs ds → Step L G H G' H' → R us s') → wpAny (model X.prog X.w) X.A.in1 (collect u) R E s)
    (k : ∀ v G' H', Step L G H G' H' → ResF X.K G' H H' v (.lst (ds.mergeSort (PySem.W.dataLe false toPy))) → Q v H') :
    wpAny (model X.prog X.w) X.A (call (.builtin "sorted") [u]) (EP X pins σ Q) X.xe s :=
  sorted_anyP (Pd := fun d => d = ds) hu (fun d e => by subst e; exact ⟨ok, hz⟩) (fun R E hR => hcol R E fun s' us xs G' H' I v r st => hR s' us xs ds G' H' rfl I v r st) fun d e => by subst e; exact k
theorem c_sortedL (hu : X.A.units + 120 < cLine) (hc : X.calm = true) : CallR X (.builtin "sorted") (r1 X.K .sorted_) := by
  intro pins s σ H vs us Q I r h
  obtain ⟨L, G, x, dx, d, rfl, fz, tx, hs, k⟩ := h
  obtain ⟨u, rfl, rx⟩ := vals1 r
  cases dx with
  | lst ds =>
    obtain ⟨es, hb, rfl⟩ := map_some hs
    obtain ⟨ok, rfl⟩ := ifb (show (if sortOk ds then some (ds.mergeSort (PySem.W.dataLe false toPy)) else none) = some es from hb)
    obtain ⟨a, xs, rfl, h, rr⟩ := tx
    cases rx
    obtain ⟨its, rv, hl, hz⟩ := Inv.lstR I h
    refine sorted_any hu ok (by rw [← rr.length]; exact hz) (fun R E hR => ?_) k
    refine PyProof.Rows.collect_list hl ?_ (by rw [← rv.length]; exact hz)
    refine hR _ its xs G H (I.kept (t' := s.toks) fun b o e => ?_) rv rr (Step.refl fz)
    rw [Heap.get?_update_ne _ _ _ _ (Nat.ne_of_lt (Heap.lt_size e))]
    exact Heap.get?_push_of_some _ e
  | dic es =>
    obtain ⟨ds, hb, rfl⟩ := map_some hs
    obtain ⟨ok, rfl⟩ := ifb (show (if sortOk _ then some _ else none) = some ds from hb)
    obtain ⟨a, ks, rfl, h, rr⟩ := tx
    cases rx
    obtain ⟨z, lo, vs, rel, dd⟩ := dk_rd I.hok h
    obtain ⟨ep, hat⟩ := dd.dictAt
    refine sorted_any hu ok (by rw [List.length_map, ← rr.length]; exact z) (fun R E hR => ?_) k
    refine PySem.W.kdu_collect (PySem.W.kdl_dict (knd := mixKind X.prog X.w) (kvs := vs) (ep := ep) lo) (I.ok.hd hc) hat (by rw [← rel.length]; exact z) fun h' tk acc hk hacc => ?_
    refine hR _ acc.toList (ks.map fun kv => kV kv.1) G H (I.kept hk) ?_ rr.keys (Step.refl fz)
    have hl : acc.toList.length = ks.length := by rw [Array.length_toList, hacc.1, rel.length]
    have key : ∀ (j : Nat) (kv : Key × V), ks[j]? = some kv → ∃ v, acc.toList[j]? = some v ∧ RelV (kV kv.1) v := by
      intro j kv e
      obtain ⟨u, e2, _⟩ := kv_get rel (show ks[j]? = some (kv.1, kv.2) from e)
      have hj : j < acc.toList.length := by rw [hl]; exact (List.getElem?_eq_some_iff.mp e).1
      have ev : acc[j]? = some acc.toList[j] := by rw [← Array.getElem?_toList]; exact List.getElem?_eq_getElem hj
      obtain ⟨k', x', e3, e4⟩ := hacc.2 j _ ev
      rw [e2] at e3
      cases e3
      exact ⟨_, List.getElem?_eq_getElem hj, relV_key e4⟩
    clear hacc hat hk
    generalize acc.toList = us at hl key
    clear rr h rel hs hb ok k
    induction ks generalizing us with
    | nil => cases us with
      | nil => exact .nil
      | cons => simp at hl
    | cons kv ks ih => cases us with
      | nil => simp at hl
      | cons w ws =>
        obtain ⟨v, e1, e2⟩ := key 0 kv rfl
        have e1' : w = v := by simpa using e1
        subst e1'
        exact .cons e2 (ih (Nat.le_trans (Nat.le_succ _) z) ws (by simpa using hl) fun j kv' e => by simpa using key (j + 1) kv' (by simpa using e))
  | _ => cases hs
end
end PyI
end

section
set_option maxRecDepth 100000
set_option maxHeartbeats 4000000
namespace PyI
open PySem PySem.Spec PyProof.Rows L2
/-- ghosts of a frame: the heaps at its entry, the slots whose objects are the caller's -/
structure Gh where
  H0 : Hp
  G0 : Hp
  io : List (Nat × Addr)
  L0 : List Addr
  lk : List (Addr × HO)
section
variable (K : PySem.W.Frag)
def OwnR (G H : Hp) (a : Addr) : D → Prop
  | .lst ds => ∃ xs, SqL K H a xs ∧ RepL K G xs ds
  | .dic es => ∃ kvs, Rd H a (.dK kvs) ∧ RepK K G kvs es
  | _ => False
def SlotOk (Γ : Gh) (G H : Hp) (c : Cl) (v : V) (d : D) : Prop := match c with
  | .F => Rep K G v d
  | .B => Rep K G v d ∨ ∃ a, v = .ref a ∧ (∀ p ∈ Γ.io, p.2 ≠ a) ∧ OwnR K G Γ.H0 a d
  | .O => (isMut d = false ∧ Rep K G v d) ∨ ∃ a, v = .ref a ∧ G a = none ∧ (Γ.H0 a = none ∨ ∃ p ∈ Γ.io, p.2 = a) ∧ Own K G H a d
def clA (cls : List Cl) (i : Nat) : Cl := cls.getD i .F
structure EnvRel (Γ : Gh) (L : List Addr) (cls : List Cl) (G : Hp) (env : PyI.Env) (σ : L2.St) (H : Hp) : Prop where
  fz : Fz (L ++ Γ.L0) G H
  g0 : Ex Γ.G0 G
  gf : ∀ b, G b ≠ none → Γ.G0 b ≠ none ∨ Γ.H0 b = none
  h0 : ∀ b, Γ.H0 b ≠ none → H b ≠ none
  kp : ∀ b o, Γ.H0 b = some o → (∀ p ∈ Γ.io, p.2 ≠ b) → At L H b o
  len : env.length = σ.length
  cl : cls.length = env.length
  sl : ∀ i d, env[i]? = some (some d) → ∃ v, σ[i]? = some (some v) ∧ SlotOk K Γ G H (clA cls i) v d
  ap : ∀ i j d e a, i ≠ j → clA cls i = .O → clA cls j = .O → env[i]? = some (some d) → isMut d = true → env[j]? = some (some e) → isMut e = true → σ[i]? = some (some (.ref a)) → σ[j]? = some (some (.ref a)) → False
  io : ∀ p ∈ Γ.io, clA cls p.1 = .O ∧ σ[p.1]? = some (some (.ref p.2)) ∧ ∃ d, env[p.1]? = some (some d) ∧ isMut d = true
  ib : ∀ p ∈ Γ.io, Γ.G0 p.2 = none ∧ Γ.H0 p.2 ≠ none
  lks : ∀ p ∈ Γ.lk, H p.1 = some p.2 ∧ ∃ o u, p.2 = .frz o u
end
section
variable {K : PySem.W.Frag} {Γ : Gh} {L : List Addr} {cls : List Cl} {G H G' H' : Hp} {env : PyI.Env} {σ : L2.St} {v : V} {d : D} {i : Nat} {a : Addr}
theorem At.rdu {o u : HO} {H0 : Hp} (r : Rd H0 a u) (f : ∀ o, H0 a = some o → At L H a o) : Rd H a u := by
  rcases r with r | ⟨o, r⟩
  · exact (f _ r).rd
  · rcases f _ r with ⟨_, q⟩ | ⟨_, _, _, q, _⟩
    · exact .inr ⟨o, q⟩
    · cases q
theorem OwnR.mono (e : Ex G G') (h : OwnR K G H a d) : OwnR K G' H a d := by
  cases d with
  | lst ds => obtain ⟨xs, h, r⟩ := h; exact ⟨xs, h, r.mono e⟩
  | dic ds => obtain ⟨xs, h, r⟩ := h; exact ⟨xs, h, r.mono e⟩
  | _ => exact h.elim
theorem OwnR.toT {H0 : Hp} (h : OwnR K G H0 a d) (f : ∀ o, H0 a = some o → At L H a o) : RepT K G H (.ref a) d := by
  cases d with
  | lst ds =>
    obtain ⟨xs, h, r⟩ := h
    refine ⟨a, xs, rfl, ?_, r⟩
    rcases h with h | h
    · exact .inl (At.rdu (o := .lst xs) h f)
    · exact .inr h
  | dic ds => obtain ⟨xs, h, r⟩ := h; exact ⟨a, xs, rfl, At.rdu (o := .dK xs) h f, r⟩
  | _ => exact h.elim
theorem SlotOk.toT (E : EnvRel K Γ L cls G env σ H) {c : Cl} (h : SlotOk K Γ G H c v d) : RepT K G H v d := by
  cases c with
  | F => exact Rep.toT E.fz h
  | B =>
    rcases h with h | ⟨a, rfl, hn, h⟩
    · exact h.toT E.fz
    · exact h.toT (L := L) fun o e => E.kp a o e hn
  | O =>
    rcases h with ⟨_, h⟩ | ⟨a, rfl, _, _, h⟩
    · exact h.toT E.fz
    · exact h.toT
theorem look_some {env : PyI.Env} {i : Nat} {d : D} (h : look env i = some d) : env[i]? = some (some d) := by
  unfold look at h
  split at h
  · rename_i d' e; cases h; exact e
  · cases h
theorem EnvRel.look (E : EnvRel K Γ L cls G env σ H) (h : PyI.look env i = some d) : ∃ v, σ[i]? = some (some v) ∧ SlotOk K Γ G H (clA cls i) v d := E.sl i d (look_some h)
theorem EnvRel.step (E : EnvRel K Γ L cls G env σ H) (s : Step (L ++ Γ.L0) G H G' H') : EnvRel K Γ L cls G' env σ H' where
  fz := s.fz
  g0 := E.g0.trans s.gg
  gf := fun b h => by
    rcases s.fr b h with q | q
    · exact E.gf b q
    · refine .inr ?_
      cases e : Γ.H0 b with
      | none => rfl
      | some o => exact absurd q (E.h0 b (by rw [e]; simp))
  h0 := fun b h => by
    cases e : H b with
    | none => exact absurd e (E.h0 b h)
    | some o => rw [s.hh _ _ e]; simp
  kp := fun b o e h => (E.kp b o e h).ex s.hh
  len := E.len
  cl := E.cl
  sl := fun i d e => by
    obtain ⟨v, h1, h2⟩ := E.sl i d e
    refine ⟨v, h1, ?_⟩
    cases c : clA cls i with
    | F => rw [c] at h2; exact Rep.mono s.gg h2
    | B =>
      rw [c] at h2
      rcases h2 with h | ⟨a, rfl, hn, h⟩
      · exact .inl (h.mono s.gg)
      · exact .inr ⟨a, rfl, hn, h.mono s.gg⟩
    | O =>
      rw [c] at h2
      rcases h2 with ⟨m, h⟩ | ⟨a, rfl, g, hn, h⟩
      · exact .inl ⟨m, h.mono s.gg⟩
      · refine .inr ⟨a, rfl, ?_, hn, h.ex s.gg s.hh⟩
        cases e : G' a with
        | none => rfl
        | some o =>
          rcases s.fr a (by rw [e]; simp) with q | q
          · exact absurd g q
          · exact absurd q h.ne
  ap := E.ap
  io := E.io
  ib := E.ib
  lks := fun p hp => ⟨s.hh _ _ (E.lks p hp).1, (E.lks p hp).2⟩
theorem clA_set {cls : List Cl} {i j : Nat} {c : Cl} (h : i < cls.length) : clA (cls.set i c) j = if j = i then c else clA cls j := by
  unfold clA
  by_cases e : j = i
  · subst e
    rw [if_pos rfl]
    simp [List.getD, List.getElem?_set_self h]
  · rw [if_neg e]
    simp [List.getD, List.getElem?_set_ne (Ne.symm e)]
theorem EnvRel.setF (E : EnvRel K Γ L cls G env σ H) (r : Rep K G v d) (hi : i < cls.length) (hn : ∀ p ∈ Γ.io, p.1 ≠ i) : EnvRel K Γ L (cls.set i .F) G (env.set i (some d)) (σ.set i (some v)) H where
  fz := E.fz
  g0 := E.g0
  gf := E.gf
  h0 := E.h0
  kp := E.kp
  len := by simp [E.len]
  cl := by simp [E.cl]
  sl := fun j e h => by
    have hl := E.len
    have hc := E.cl
    rw [clA_set hi]
    by_cases q : j = i
    · subst q
      rw [List.getElem?_set_self (by omega)] at h
      cases h
      rw [if_pos rfl]
      exact ⟨v, List.getElem?_set_self (by omega), r⟩
    · rw [List.getElem?_set_ne (Ne.symm q)] at h
      rw [if_neg q, List.getElem?_set_ne (Ne.symm q)]
      exact E.sl j e h
  ap := fun p q d' e' b hpq c1 c2 h1 m1 h2 m2 s1 s2 => by
    rw [clA_set hi] at c1 c2
    by_cases hp : p = i
    · rw [if_pos hp] at c1; cases c1
    · by_cases hq : q = i
      · rw [if_pos hq] at c2; cases c2
      · rw [if_neg hp] at c1
        rw [if_neg hq] at c2
        rw [List.getElem?_set_ne (Ne.symm hp)] at h1 s1
        rw [List.getElem?_set_ne (Ne.symm hq)] at h2 s2
        exact E.ap p q d' e' b hpq c1 c2 h1 m1 h2 m2 s1 s2
  io := fun p hp => by
    have := hn p hp
    rw [clA_set hi, if_neg this, List.getElem?_set_ne (Ne.symm this), List.getElem?_set_ne (Ne.symm this)]
    exact E.io p hp
  ib := E.ib
  lks := E.lks
theorem EnvRel.setO (E : EnvRel K Γ L cls G env σ H) (s : Step (L ++ Γ.L0) G H G' H') (r : ResF K G' H H' v d) (hi : i < cls.length) (hn : ∀ p ∈ Γ.io, p.1 ≠ i) : EnvRel K Γ L (cls.set i .O) G' (env.set i (some d)) (σ.set i (some v)) H' := by
  have E' := E.step s
  exact {
    fz := E'.fz
    g0 := E'.g0
    gf := E'.gf
    h0 := E'.h0
    kp := E'.kp
    len := by simp [E.len]
    cl := by simp [E.cl]
    sl := fun j e h => by
      have hl := E.len
      have hc := E.cl
      rw [clA_set hi]
      by_cases q : j = i
      · subst q
        rw [List.getElem?_set_self (by omega)] at h
        cases h
        rw [if_pos rfl]
        refine ⟨v, List.getElem?_set_self (by omega), ?_⟩
        cases m : isMut d with
        | false => exact .inl ⟨m, r.im m⟩
        | true =>
          obtain ⟨a, rfl, g, n, o⟩ := r.own m
          refine .inr ⟨a, rfl, g, .inl ?_, o⟩
          cases e : Γ.H0 a with
          | none => rfl
          | some x => exact absurd n (E.h0 a (by rw [e]; simp))
      · rw [List.getElem?_set_ne (Ne.symm q)] at h
        rw [if_neg q, List.getElem?_set_ne (Ne.symm q)]
        exact E'.sl j e h
    ap := fun p q d' e' b hpq c1 c2 h1 m1 h2 m2 s1 s2 => by
      have hl := E.len
      have hc := E.cl
      have other : ∀ {p : Nat} {d' : D}, p ≠ i → clA cls p = .O → env[p]? = some (some d') → isMut d' = true → σ[p]? = some (some (.ref b)) → H b ≠ none := by
        intro p d' hp c1 h1 m1 s1
        obtain ⟨w, e1, e2⟩ := E.sl p d' h1
        rw [s1] at e1
        cases e1
        rw [c1] at e2
        rcases e2 with ⟨m, _⟩ | ⟨a, ea, _, _, o⟩
        · rw [m1] at m; cases m
        · cases ea; exact o.ne
      have self : ∀ {p : Nat} {d' : D}, p = i → (env.set i (some d))[p]? = some (some d') → isMut d' = true → (σ.set i (some v))[p]? = some (some (.ref b)) → H b = none := by
        intro p d' hp h1 m1 s1
        subst hp
        rw [List.getElem?_set_self (by omega)] at h1 s1
        cases h1; cases s1
        obtain ⟨a, ea, _, n, _⟩ := r.own m1
        cases ea
        exact n
      rw [clA_set hi] at c1 c2
      by_cases hp : p = i
      · by_cases hq : q = i
        · exact hpq (hp.trans hq.symm)
        · rw [if_neg hq] at c2
          rw [List.getElem?_set_ne (Ne.symm hq)] at h2 s2
          exact other hq c2 h2 m2 s2 (self hp h1 m1 s1)
      · rw [if_neg hp] at c1
        rw [List.getElem?_set_ne (Ne.symm hp)] at h1 s1
        by_cases hq : q = i
        · exact other hp c1 h1 m1 s1 (self hq h2 m2 s2)
        · rw [if_neg hq] at c2
          rw [List.getElem?_set_ne (Ne.symm hq)] at h2 s2
          exact E.ap p q d' e' b hpq c1 c2 h1 m1 h2 m2 s1 s2
    io := fun p hp => by
      have := hn p hp
      rw [clA_set hi, if_neg this, List.getElem?_set_ne (Ne.symm this), List.getElem?_set_ne (Ne.symm this)]
      exact E.io p hp
    ib := E.ib
    lks := E'.lks }
theorem upd_at {o : HO} {b : Addr} (h : b ≠ a) : (upd H a o) b = H b := upd_ne h
/-- an owned object is written -/
theorem EnvRel.write (E : EnvRel K Γ L cls G env σ H) {d' : D} {o : HO} (hc : clA cls i = .O) (he : env[i]? = some (some d)) (hm : isMut d = true) (hs : σ[i]? = some (some (.ref a))) (hm' : isMut d' = true) (hw : Own K G (upd H a o) a d') :
    EnvRel K Γ L cls G (env.set i (some d')) σ (upd H a o) := by
  have hii : i < env.length := (List.getElem?_eq_some_iff.mp he).1
  obtain ⟨v0, e1, e2⟩ := E.sl i d he
  rw [hs] at e1
  cases e1
  rw [hc] at e2
  rcases e2 with ⟨m, _⟩ | ⟨a', ea, g, hn, own⟩
  · rw [hm] at m; cases m
  cases ea
  have inH : H a ≠ none := own.ne
  have aL : a ∉ L ++ Γ.L0 := fun hL => by
    obtain ⟨o', kvs, q⟩ := E.fz.lk a hL
    cases d with
    | lst ds => obtain ⟨xs, h, _⟩ := own; rw [h] at q; cases q
    | dic ds => obtain ⟨xs, h, _⟩ := own; rw [h] at q; cases q
    | _ => exact own.elim
  have atb : ∀ {M : List Addr} {b u}, b ≠ a → At M H b u → At M (upd H a o) b u := by
    intro M b u hb h
    rcases h with ⟨l, h⟩ | ⟨l, o', kvs, e, h⟩
    · exact .inl ⟨l, by rw [upd_ne hb]; exact h⟩
    · exact .inr ⟨l, o', kvs, e, by rw [upd_ne hb]; exact h⟩
  exact {
    fz := ⟨fun b u q => atb (fun z => by rw [z, g] at q; cases q) (E.fz.sub b u q), fun b hb => by
      obtain ⟨o', kvs, q⟩ := E.fz.lk b hb
      have z : b ≠ a := fun z => aL (by rw [← z]; exact hb)
      exact ⟨o', kvs, by rw [upd_ne z]; exact q⟩⟩
    g0 := E.g0
    gf := E.gf
    h0 := fun b hb => by
      by_cases z : b = a
      · rw [z, upd_same]; simp
      · rw [upd_ne z]; exact E.h0 b hb
    kp := fun b u q hb => by
      refine atb (fun z => ?_) (E.kp b u q hb)
      subst z
      rcases hn with hn | ⟨p, hp, ep⟩
      · rw [hn] at q; cases q
      · exact hb p hp ep
    len := by simp [E.len]
    cl := by simp [E.cl]
    sl := fun j e h => by
      by_cases q : j = i
      · subst q
        rw [List.getElem?_set_self hii] at h
        cases h
        refine ⟨_, hs, ?_⟩
        rw [hc]
        exact .inr ⟨a, rfl, g, hn, hw⟩
      · rw [List.getElem?_set_ne (Ne.symm q)] at h
        obtain ⟨w, h1, h2⟩ := E.sl j e h
        refine ⟨w, h1, ?_⟩
        cases c : clA cls j with
        | F => rw [c] at h2; exact h2
        | B => rw [c] at h2; exact h2
        | O =>
          rw [c] at h2
          rcases h2 with ⟨m, h2⟩ | ⟨b, rfl, g2, hn2, own2⟩
          · exact .inl ⟨m, h2⟩
          · refine .inr ⟨b, rfl, g2, hn2, ?_⟩
            have hb : b ≠ a := fun z => by
              subst z
              exact E.ap i j d e b (Ne.symm q) hc c he hm h own2.mut hs h1
            cases e with
            | lst ds => obtain ⟨xs, h, r⟩ := own2; exact ⟨xs, by rw [upd_ne hb]; exact h, r⟩
            | dic ds => obtain ⟨xs, h, r⟩ := own2; exact ⟨xs, by rw [upd_ne hb]; exact h, r⟩
            | _ => exact own2.elim
    ap := fun p q d1 e1 b hpq c1 c2 h1 m1 h2 m2 s1 s2 => by
      have get : ∀ {p : Nat} {d1 : D}, (env.set i (some d'))[p]? = some (some d1) → isMut d1 = true → ∃ d2, env[p]? = some (some d2) ∧ isMut d2 = true := by
        intro p d1 h1 m1
        by_cases z : p = i
        · subst z; exact ⟨d, he, hm⟩
        · rw [List.getElem?_set_ne (Ne.symm z)] at h1; exact ⟨d1, h1, m1⟩
      obtain ⟨d2, x1, x2⟩ := get h1 m1
      obtain ⟨e2, y1, y2⟩ := get h2 m2
      exact E.ap p q d2 e2 b hpq c1 c2 x1 x2 y1 y2 s1 s2
    io := fun p hp => by
      obtain ⟨c1, s1, d1, h1, m1⟩ := E.io p hp
      refine ⟨c1, s1, ?_⟩
      by_cases z : p.1 = i
      · rw [z]
        exact ⟨d', List.getElem?_set_self hii, hm'⟩
      · rw [List.getElem?_set_ne (Ne.symm z)]; exact ⟨d1, h1, m1⟩
    ib := E.ib
    lks := fun p hp => by
      obtain ⟨h1, o', u', h2⟩ := E.lks p hp
      refine ⟨?_, o', u', h2⟩
      have z : p.1 ≠ a := fun z => by
        rw [z, h2] at h1
        cases d with
        | lst ds => obtain ⟨xs, h, _⟩ := own; rw [h] at h1; cases h1
        | dic ds => obtain ⟨xs, h, _⟩ := own; rw [h] at h1; cases h1
        | _ => exact own.elim
      rw [upd_ne z]; exact h1 }
/-- an owned slot is frozen -/
theorem EnvRel.freeze (E : EnvRel K Γ L cls G env σ H) (hi : i < cls.length) (hc : clA cls i = .O) (hn : ∀ p ∈ Γ.io, p.1 ≠ i) : ∃ G', Ex G G' ∧ EnvRel K Γ L (cls.set i .F) G' env σ H := by
  cases he : env[i]? with
  | none => have := List.getElem?_eq_none_iff.mp he; have := E.cl; omega
  | some od =>
    cases od with
    | none =>
      refine ⟨G, Ex.refl G, { E with
        cl := by simp [E.cl]
        sl := fun j e h => ?_
        ap := fun p q d' e' b hpq c1 c2 h1 m1 h2 m2 s1 s2 => ?_
        io := fun p hp => ?_ }⟩
      · have q : j ≠ i := fun z => by subst z; rw [he] at h; cases h
        rw [clA_set hi, if_neg q]
        exact E.sl j e h
      · rw [clA_set hi] at c1 c2
        split at c1
        · cases c1
        · split at c2
          · cases c2
          · exact E.ap p q d' e' b hpq c1 c2 h1 m1 h2 m2 s1 s2
      · rw [clA_set hi, if_neg (hn p hp)]; exact E.io p hp
    | some d =>
      obtain ⟨v, h1, h2⟩ := E.sl i d he
      rw [hc] at h2
      have apn : ∀ p q d' e' b, p ≠ q → clA (cls.set i .F) p = .O → clA (cls.set i .F) q = .O → env[p]? = some (some d') → isMut d' = true → env[q]? = some (some e') → isMut e' = true → σ[p]? = some (some (.ref b)) → σ[q]? = some (some (.ref b)) → False := fun p q d' e' b hpq c1 c2 h1 m1 h2 m2 s1 s2 => by
        rw [clA_set hi] at c1 c2
        split at c1
        · cases c1
        · split at c2
          · cases c2
          · exact E.ap p q d' e' b hpq c1 c2 h1 m1 h2 m2 s1 s2
      have ion : ∀ p ∈ Γ.io, clA (cls.set i .F) p.1 = .O ∧ σ[p.1]? = some (some (.ref p.2)) ∧ ∃ d, env[p.1]? = some (some d) ∧ isMut d = true := fun p hp => by
        rw [clA_set hi, if_neg (hn p hp)]; exact E.io p hp
      rcases h2 with ⟨m, r⟩ | ⟨a, rfl, g, hn', own⟩
      · refine ⟨G, Ex.refl G, { E with
          cl := by simp [E.cl]
          sl := fun j e h => ?_
          ap := apn
          io := ion }⟩
        rw [clA_set hi]
        by_cases q : j = i
        · subst q
          rw [he] at h; cases h
          rw [if_pos rfl]
          exact ⟨v, h1, r⟩
        · rw [if_neg q]; exact E.sl j e h
      · have h0a : Γ.H0 a = none := by
          rcases hn' with h | ⟨p, hp, ep⟩
          · exact h
          · obtain ⟨c1, s1, d1, e1, m1⟩ := E.io p hp
            rw [ep] at s1
            exact (E.ap i p.1 d d1 a (fun z => hn p hp z.symm) hc c1 he own.mut e1 m1 h1 s1).elim
        have aL : a ∉ L ++ Γ.L0 := fun hL => by
          obtain ⟨o', kvs, q⟩ := E.fz.lk a hL
          cases d with
          | lst ds => obtain ⟨xs, h, _⟩ := own; rw [h] at q; cases q
          | dic ds => obtain ⟨xs, h, _⟩ := own; rw [h] at q; cases q
          | _ => exact own.elim
        obtain ⟨o, ho, rp⟩ : ∃ o, H a = some o ∧ Rep K (upd G a o) (.ref a) d := by
          cases d with
          | lst ds => obtain ⟨xs, h, r⟩ := own; exact ⟨_, h, .lst (.inl (.inl upd_same)) (r.mono (Ex.new g))⟩
          | dic ds => obtain ⟨xs, h, r⟩ := own; exact ⟨_, h, .dic (.inl upd_same) (r.mono (Ex.new g))⟩
          | _ => exact own.elim
        have eG : Ex G (upd G a o) := Ex.new g
        refine ⟨upd G a o, eG, { 
          fz := E.fz.freeze ho aL g
          g0 := E.g0.trans eG
          gf := fun b hb => ?_
          h0 := E.h0
          kp := E.kp
          len := E.len
          cl := by simp [E.cl]
          sl := fun j e h => ?_
          ap := apn
          io := ion
          ib := E.ib
          lks := E.lks }⟩
        · by_cases z : b = a
          · rw [z]; exact .inr h0a
          · rw [upd_ne z] at hb; exact E.gf b hb
        · rw [clA_set hi]
          by_cases q : j = i
          · subst q
            rw [he] at h; cases h
            rw [if_pos rfl]
            exact ⟨_, h1, rp⟩
          · rw [if_neg q]
            obtain ⟨w, x1, x2⟩ := E.sl j e h
            refine ⟨w, x1, ?_⟩
            cases c : clA cls j with
            | F => rw [c] at x2; exact Rep.mono eG x2
            | B =>
              rw [c] at x2
              rcases x2 with x2 | ⟨b, rfl, y1, y2⟩
              · exact .inl (x2.mono eG)
              · exact .inr ⟨b, rfl, y1, y2.mono eG⟩
            | O =>
              rw [c] at x2
              rcases x2 with ⟨m, x2⟩ | ⟨b, rfl, g2, y1, y2⟩
              · exact .inl ⟨m, x2.mono eG⟩
              · have hb : b ≠ a := fun z => by
                  subst z
                  exact E.ap i j d e b (Ne.symm q) hc c he own.mut h y2.mut h1 x1
                exact .inr ⟨b, rfl, by rw [upd_ne hb]; exact g2, y1, y2.ex eG (Ex.refl H)⟩
/-- the object at a is a caller's or frozen: no owned slot holds it -/
def NotO (Γ : Gh) (G : Hp) (a : Addr) : Prop := G a ≠ none ∨ (Γ.H0 a ≠ none ∧ ∀ p ∈ Γ.io, p.2 ≠ a)
theorem NotO.mono {G G' : Hp} {a : Addr} (e : Ex G G') (h : NotO Γ G a) : NotO Γ G' a := by
  rcases h with h | h
  · left
    cases q : G a with
    | none => exact absurd q h
    | some o => rw [e _ _ q]; simp
  · exact .inr h
theorem NotO.own {b : Addr} (h : NotO Γ G a) (g : G b = none) (hn : Γ.H0 b = none ∨ ∃ p ∈ Γ.io, p.2 = b) : b ≠ a := by
  intro z
  subst z
  rcases h with h | ⟨h1, h2⟩
  · exact h g
  · rcases hn with q | ⟨p, hp, q⟩
    · exact h1 q
    · exact h2 p hp q
theorem Own.upd {b : Addr} {o : HO} (hb : b ≠ a) (h : Own K G H b d) : Own K G (upd H a o) b d := by
  cases d with
  | lst ds => obtain ⟨xs, h, r⟩ := h; exact ⟨xs, by rw [upd_ne hb]; exact h, r⟩
  | dic ds => obtain ⟨xs, h, r⟩ := h; exact ⟨xs, by rw [upd_ne hb]; exact h, r⟩
  | _ => exact h.elim
theorem At.lock {ks : List (Key × V)} {od : Obj} {M : List Addr} {b : Addr} {o : HO} (hH : H a = some (.dK ks)) (h : At M H b o) : At (a :: M) (upd H a (.frz od (.dK ks))) b o := by
  by_cases z : b = a
  · subst z
    rcases h with ⟨_, h⟩ | ⟨_, o', kvs, _, h⟩
    · rw [hH] at h; cases h
      exact .inr ⟨List.mem_cons_self, od, ks, rfl, upd_same⟩
    · rw [hH] at h; cases h
  · rcases h with ⟨l, h⟩ | ⟨l, o', kvs, e, h⟩
    · exact .inl ⟨fun q => (List.mem_cons.mp q).elim z l, by rw [upd_ne z]; exact h⟩
    · exact .inr ⟨List.mem_cons_of_mem _ l, o', kvs, e, by rw [upd_ne z]; exact h⟩
theorem At.unlock {ks : List (Key × V)} {od : Obj} {M : List Addr} {b : Addr} {o : HO} (hH : H a = some (.frz od (.dK ks))) (ha : a ∉ M) (h : At (a :: M) H b o) : At M (upd H a (.dK ks)) b o := by
  by_cases z : b = a
  · subst z
    rcases h with ⟨l, h⟩ | ⟨_, o', kvs, e, h⟩
    · exact absurd List.mem_cons_self l
    · rw [hH] at h; cases h
      exact .inl ⟨ha, by rw [e]; exact upd_same⟩
  · rcases h with ⟨l, h⟩ | ⟨l, o', kvs, e, h⟩
    · exact .inl ⟨fun q => l (List.mem_cons_of_mem _ q), by rw [upd_ne z]; exact h⟩
    · exact .inr ⟨(List.mem_cons.mp l).resolve_left z, o', kvs, e, by rw [upd_ne z]; exact h⟩
theorem Fz.lock {M : List Addr} {ks : List (Key × V)} {od : Obj} (f : Fz M G H) (hH : H a = some (.dK ks)) : Fz (a :: M) G (upd H a (.frz od (.dK ks))) :=
  ⟨fun b o q => At.lock hH (f.sub b o q), fun b hb => by
    by_cases z : b = a
    · subst z; exact ⟨od, ks, upd_same⟩
    · rcases List.mem_cons.mp hb with q | q
      · exact absurd q z
      · obtain ⟨o', kvs, h⟩ := f.lk b q; exact ⟨o', kvs, by rw [upd_ne z]; exact h⟩⟩
theorem Fz.unlock {M : List Addr} {ks : List (Key × V)} {od : Obj} (f : Fz (a :: M) G H) (hH : H a = some (.frz od (.dK ks))) (ha : a ∉ M) : Fz M G (upd H a (.dK ks)) :=
  ⟨fun b o q => At.unlock hH ha (f.sub b o q), fun b hb => by
    have z : b ≠ a := fun z => ha (by rw [← z]; exact hb)
    obtain ⟨o', kvs, h⟩ := f.lk b (List.mem_cons_of_mem _ hb)
    exact ⟨o', kvs, by rw [upd_ne z]; exact h⟩⟩
theorem EnvRel.lock {ks : List (Key × V)} {od : Obj} (E : EnvRel K Γ L cls G env σ H) (hH : H a = some (.dK ks)) (hn : NotO Γ G a) : EnvRel K Γ (a :: L) cls G env σ (upd H a (.frz od (.dK ks))) where
  fz := E.fz.lock hH
  g0 := E.g0
  gf := E.gf
  h0 := fun b hb => by
    by_cases z : b = a
    · rw [z, upd_same]; simp
    · rw [upd_ne z]; exact E.h0 b hb
  kp := fun b o q hb => At.lock hH (E.kp b o q hb)
  len := E.len
  cl := E.cl
  sl := fun j e h => by
    obtain ⟨w, h1, h2⟩ := E.sl j e h
    refine ⟨w, h1, ?_⟩
    cases c : clA cls j with
    | F => rw [c] at h2; exact h2
    | B => rw [c] at h2; exact h2
    | O =>
      rw [c] at h2
      rcases h2 with ⟨m, h2⟩ | ⟨b, rfl, g2, hn2, own2⟩
      · exact .inl ⟨m, h2⟩
      · exact .inr ⟨b, rfl, g2, hn2, own2.upd (hn.own g2 hn2)⟩
  ap := E.ap
  io := E.io
  ib := E.ib
  lks := fun p hp => by
    obtain ⟨h1, o', u', h2⟩ := E.lks p hp
    have z : p.1 ≠ a := fun z => by rw [z, hH, h2] at h1; cases h1
    exact ⟨by rw [upd_ne z]; exact h1, o', u', h2⟩
theorem EnvRel.unlock {ks : List (Key × V)} {od : Obj} (E : EnvRel K Γ (a :: L) cls G env σ H) (hH : H a = some (.frz od (.dK ks))) (hn : NotO Γ G a) (ha : a ∉ L ++ Γ.L0) (hl : ∀ p ∈ Γ.lk, p.1 ≠ a) : EnvRel K Γ L cls G env σ (upd H a (.dK ks)) where
  fz := Fz.unlock E.fz hH ha
  g0 := E.g0
  gf := E.gf
  h0 := fun b hb => by
    by_cases z : b = a
    · rw [z, upd_same]; simp
    · rw [upd_ne z]; exact E.h0 b hb
  kp := fun b o q hb => At.unlock hH (fun h => ha (List.mem_append_left _ h)) (E.kp b o q hb)
  len := E.len
  cl := E.cl
  sl := fun j e h => by
    obtain ⟨w, h1, h2⟩ := E.sl j e h
    refine ⟨w, h1, ?_⟩
    cases c : clA cls j with
    | F => rw [c] at h2; exact h2
    | B => rw [c] at h2; exact h2
    | O =>
      rw [c] at h2
      rcases h2 with ⟨m, h2⟩ | ⟨b, rfl, g2, hn2, own2⟩
      · exact .inl ⟨m, h2⟩
      · exact .inr ⟨b, rfl, g2, hn2, own2.upd (hn.own g2 hn2)⟩
  ap := E.ap
  io := E.io
  ib := E.ib
  lks := fun p hp => by
    obtain ⟨h1, h2⟩ := E.lks p hp
    exact ⟨by rw [upd_ne (hl p hp)]; exact h1, h2⟩
def Gh.pin (Γ : Gh) (a : Addr) (o : HO) : Gh := { Γ with lk := (a, o) :: Γ.lk }
theorem EnvRel.pin {o : Obj} {u : HO} (E : EnvRel K Γ L cls G env σ H) (h : H a = some (.frz o u)) : EnvRel K (Γ.pin a (.frz o u)) L cls G env σ H :=
  { E with
    lks := fun p hp => by
      rcases List.mem_cons.mp hp with q | q
      · subst q; exact ⟨h, o, u, rfl⟩
      · exact E.lks p q }
theorem EnvRel.unpin {o : HO} (E : EnvRel K (Γ.pin a o) L cls G env σ H) : EnvRel K Γ L cls G env σ H :=
  { E with
    lks := fun p hp => E.lks p (List.mem_cons_of_mem _ hp) }
end
end PyI
end

section
set_option maxRecDepth 100000
set_option maxHeartbeats 4000000
namespace PyI
open PySem PySem.Spec PyProof.Rows L2
structure Stat where
  N : List Str
  fds : List FDef
  blt : List Str
  consts : List (Str × D)
/-! names -/
def visB (sc : Scope) (x : Str) : Bool := match sc.names.lookup x with
  | some .local => true
  | some .cell => true
  | some .free => true
  | _ => false
def locB (sc : Scope) (x : Str) : Bool := match sc.names.lookup x with
  | some .local => true
  | some .cell => true
  | _ => false
def glB (sc : Scope) (x : Str) : Bool := match sc.names.lookup x with
  | some .globalImplicit => true
  | _ => false
def dbg (x : Str) : Bool := x == ("__debug__" : Str)
def nmB (N : List Str) (sc : Scope) (i : Nat) (x : Str) : Bool := decide (N[i]? = some x) && visB sc x && !dbg x && !(x == ("__classdict__" : Str))
def blB (S : Stat) (sc : Scope) (x y : Str) : Bool := decide (x = y) && glB sc x && decide (x ∈ S.blt) && !dbg x
def notSet : PySem.Expr → Bool
  | .Set _ _ _ => false
  | _ => true
def notSlice : PySem.Expr → Bool
  | .Slice _ _ _ _ => false
  | _ => true
def notStar : PySem.Expr → Bool
  | .Starred _ _ => false
  | _ => true
def notComp : PySem.Expr → Bool
  | .ListComp _ _ _ _ => false
  | .SetComp _ _ _ _ => false
  | .DictComp _ _ _ _ _ => false
  | _ => true
def abB : PySem.Expr → Bool
  | .Call (.Name id _) [] [] _ => !(id == ("super" : Str))
  | _ => true
def opM : Op2 → Operator → Bool
  | .add, .Add => true
  | .sub, .Sub => true
  | .mul, .Mult => true
  | .fdiv, .FloorDiv => true
  | .mod, .Mod => true
  | .pow, .Pow => true
  | .band, .BitAnd => true
  | .shr, .RShift => true
  | _, _ => false
def cmM : Op2 → CmpOp → Bool
  | .eq, .Eq => true
  | .ne, .NotEq => true
  | .lt, .Lt => true
  | .le, .LtE => true
  | .gt, .Gt => true
  | .ge, .GtE => true
  | .isin, .In => true
  | .notin, .NotIn => true
  | .is_, .Is => true
  | .isnot, .IsNot => true
  | _, _ => false
def nm1 : Op1 → Option Str
  | .len => some "len"
  | .all_ => some "all"
  | .any_ => some "any"
  | .sum_ => some "sum"
  | .sorted_ => some "sorted"
  | .tuple_ => some "tuple"
  | .list_ => some "list"
  | .dict_ => some "dict"
  | .int_ => some "int"
  | .str_ => some "str"
  | .max_ => some "max"
  | .min_ => some "min"
  | _ => none
def nm2 : Op2 → Option Str
  | .max2 => some "max"
  | .min2 => some "min"
  | _ => none
def tyName : Ty → Str
  | .int => "int"
  | .bool => "bool"
  | .str => "str"
  | .tuple => "tuple"
  | .list => "list"
  | .dict => "dict"
def tgF (cls : List Cl) (is : List Nat) : Bool := is.all fun i => decide (clA cls i ≠ .O) && decide (i < cls.length)
def vpos (cls : List Cl) : E → Bool
  | .var i => decide (clA cls i = .F)
  | _ => true
def vposs (cls : List Cl) : List E → Bool
  | [] => true
  | e :: es => vpos cls e && vposs cls es
def tgOwn (N : List Str) : Tg → List (Str × Nat)
  | .name i => [(N.getD i Str.empty, i)]
  | .tup is => is.map fun i => (N.getD i Str.empty, i)
def clsT (cls : List Cl) : Tg → List Cl
  | .name i => cls.set i .F
  | .tup is => is.foldl (fun c i => c.set i .F) cls
/-- a target: names that may be stored -/
def tgNm (N : List Str) (sc : Scope) (i : Nat) : PySem.Expr → Bool
  | .Name x _ => decide (N[i]? = some x) && locB sc x
  | _ => false
def tgNms (N : List Str) (sc : Scope) : List Nat → List PySem.Expr → Bool
  | [], [] => true
  | i :: is, e :: es => tgNm N sc i e && tgNms N sc is es
  | _, _ => false
def tgB (N : List Str) (sc : Scope) : Tg → PySem.Expr → Bool
  | .name i, e => tgNm N sc i e
  | .tup is, .Tuple es _ _ => tgNms N sc is es
  | _, _ => false
def clOk (cls : List Cl) : Cl → E → Bool
  | .F, e => vpos cls e
  | _, _ => true
def posOk (cls : List Cl) : List Cl → List E → Bool
  | c :: cs, e :: es => clOk cls c e && posOk cls cs es
  | _, [] => true
  | [], _ :: _ => false
def noO (cs : List Cl) : Bool := cs.all fun c => match c with | .O => false | _ => true
def isTupTg : Tg → Bool
  | .tup _ => true
  | _ => false
def isIfE : PySem.Expr → Bool
  | .IfExp _ _ _ _ => true
  | _ => false
mutual
def dEqB : D → D → Bool
  | .non, .non => true
  | .bl a, .bl b => a == b
  | .int a, .int b => decide (a = b)
  | .str a, .str b => decide (a = b)
  | .tup a, .tup b => dEqBs a b
  | _, _ => false
def dEqBs : List D → List D → Bool
  | [], [] => true
  | x :: xs, y :: ys => dEqB x y && dEqBs xs ys
  | _, _ => false
end
mutual
theorem dEqB_ok : ∀ {a b : D}, dEqB a b = true → a = b
  | .non, b, h => by cases b <;> first | rfl | cases h
  | .bl x, b, h => by cases b <;> first | (simp [dEqB] at h; rw [h]) | cases h
  | .int x, b, h => by cases b <;> first | (simp [dEqB] at h; rw [h]) | cases h
  | .str x, b, h => by cases b <;> first | (simp [dEqB] at h; rw [h]) | cases h
  | .tup x, b, h => by
    cases b with
    | tup y => rw [dEqBs_ok (a := x) (b := y) h]
    | _ => cases h
  | .lst x, b, h => by cases b <;> cases h
  | .dic x, b, h => by cases b <;> cases h
theorem dEqBs_ok : ∀ {a b : List D}, dEqBs a b = true → a = b
  | [], [], _ => rfl
  | [], _ :: _, h => by cases h
  | _ :: _, [], h => by cases h
  | x :: xs, y :: ys, h => by
    have h' : (dEqB x y && dEqBs xs ys) = true := h
    rw [Bool.and_eq_true] at h'
    rw [dEqB_ok h'.1, dEqBs_ok h'.2]
end
def fr1 : Op1 → Bool
  | .tuple_ => false
  | .sorted_ => true
  | .sitems => true
  | .srev => true
  | .ssort => true
  | .list_ => true
  | .dict_ => true
  | _ => false
def fr2 : Op2 → Bool
  | .add => true
  | .mul => true
  | _ => false
/-- the result is new, or no list and no dict -/
def frE (fds : List FDef) : E → Bool
  | .lit d => !isMut d
  | .op1 o _ => fr1 o
  | .op2 o _ _ => fr2 o
  | .tup _ => true
  | .lst _ => true
  | .dct _ _ => true
  | .slice _ _ _ => true
  | .rev _ => true
  | .comp _ _ _ _ _ => true
  | .isi _ _ => true
  | .and_ _ _ => true
  | .or_ _ _ => true
  | .cmp2 _ _ _ _ _ => true
  | .ite _ a b => frE fds a && frE fds b
  | .call f _ => match fds[f]? with
    | some fd => fd.fresh
    | none => false
  | _ => false
def isLc : PySem.Expr → Bool
  | .ListComp _ _ _ _ => true
  | .SetComp _ _ _ _ => true
  | .DictComp _ _ _ _ _ => true
  | _ => false
/-- what was owned is borrowed -/
def toB (cls : List Cl) : List Cl := cls.map fun c => match c with
  | .O => .B
  | c => c
/-! views: what a piece of syntax is, one step deep -/
section
variable (S : Stat)
def okIf {α : Type} (b : Bool) (x : α) : Option α := if b = true then some x else none
def vName (sc : Scope) (i : Nat) : PySem.Expr → Bool
  | .Name x _ => nmB S.N sc i x
  | _ => false
def vLit : D → PySem.Expr → Bool
  | .int i, .Constant (.int j) _ _ => decide (i = j)
  | .str i, .Constant (.str j) _ _ => decide (i = j)
  | .bl i, .Constant (.bool j) _ _ => i == j
  | .non, .Constant .none _ _ => true
  | _, _ => false
def vGlb (sc : Scope) (x : Str) (d : D) : PySem.Expr → Bool
  | .Name y _ => decide (x = y) && glB sc y && !dbg y && (S.consts.any fun p => decide (p.1 = x) && dEqB p.2 d)
  | _ => false
def vNot : PySem.Expr → Option PySem.Expr
  | .UnaryOp .Not x _ => okIf (!isIfE x) x
  | _ => none
def vNeg : PySem.Expr → Option PySem.Expr
  | .UnaryOp .USub x _ => some x
  | _ => none
def vC1 (sc : Scope) (o : Op1) : PySem.Expr → Option PySem.Expr
  | .Call (.Name f _) [x] [] _ => (match nm1 o with
    | some y => okIf (blB S sc f y) x
    | none => none)
  | _ => none
/-- sorted(x.items()) -/
def vSit (sc : Scope) : PySem.Expr → Option PySem.Expr
  | .Call (.Name f _) [.Call (.Attribute x m apos) [] [] cpos] [] _ => okIf (blB S sc f "sorted" && decide (m = ("items" : Str)) && abB x && (apos.endLine == cpos.line)) x
  | _ => none
/-- sorted(x, reverse=True) -/
def vSrev (sc : Scope) : PySem.Expr → Option PySem.Expr
  | .Call (.Name f _) [x] [⟨some k, .Constant (.bool true) _ _, _⟩] _ => okIf (blB S sc f "sorted" && decide (k = ("reverse" : Str)) && notStar x) x
  | _ => none
/-- sorted(set(x)) -/
def vSst (sc : Scope) : PySem.Expr → Option PySem.Expr
  | .Call (.Name f _) [.Call (.Name g _) [x] [] _] [] _ => okIf (blB S sc f "sorted" && blB S sc g "set" && notStar x) x
  | _ => none
def vOp1 (sc : Scope) (o : Op1) (a : PySem.Expr) : Option PySem.Expr := match o with
  | .not_ => vNot a
  | .neg => vNeg a
  | .sitems => vSit S sc a
  | .srev => vSrev S sc a
  | .ssort => vSst S sc a
  | _ => vC1 S sc o a
def vOp2 (sc : Scope) (o : Op2) : PySem.Expr → Option (PySem.Expr × PySem.Expr)
  | .Subscript l r _ => okIf (decide (o = .ix) && notSlice r) (l, r)
  | .BinOp l op r _ => okIf (opM o op) (l, r)
  | .Compare l [op] [r] _ => okIf (cmM o op && notSet r) (l, r)
  | .Call (.Name f _) [l, r] [] _ => (match nm2 o with
    | some x => okIf (blB S sc f x) (l, r)
    | none => none)
  | .Call (.Attribute l m apos) [r] [] cpos => okIf (((decide (o = .join) && decide (m = ("join" : Str))) || (decide (o = .get1) && decide (m = ("get" : Str)))) && abB l && (apos.endLine == cpos.line)) (l, r)
  | _ => none
def vIsi (sc : Scope) (t : Ty) : PySem.Expr → Option PySem.Expr
  | .Call (.Name f _) [x, .Name y _] [] _ => okIf (blB S sc f "isinstance" && blB S sc y (tyName t)) x
  | _ => none
def vTup : PySem.Expr → Option (List PySem.Expr)
  | .Tuple xs _ _ => some xs
  | _ => none
def vLst : PySem.Expr → Option (List PySem.Expr)
  | .List xs _ => some xs
  | _ => none
def vDct0 : PySem.Expr → Bool
  | .Dict [] [] _ => true
  | _ => false
def vDct1 : PySem.Expr → Option (PySem.Expr × PySem.Expr)
  | .Dict [some k] [v] _ => some (k, v)
  | _ => none
def vSlice : PySem.Expr → Option (PySem.Expr × Option PySem.Expr × Option PySem.Expr)
  | .Subscript l (.Slice lo hi none _) _ => some (l, lo, hi)
  | _ => none
/-- x[::-1] -/
def vRev : PySem.Expr → Option PySem.Expr
  | .Subscript l (.Slice none none (some (.UnaryOp .USub (.Constant (.int 1) _ _) _)) _) _ => some l
  | _ => none
def vAnd : PySem.Expr → Option (PySem.Expr × PySem.Expr)
  | .BoolOp .And (x :: y :: r) p => okIf (!isIfE x && (!r.isEmpty || !isIfE y)) (x, match r with
    | [] => y
    | z :: r => .BoolOp .And (y :: z :: r) p)
  | _ => none
def vOr : PySem.Expr → Option (PySem.Expr × PySem.Expr)
  | .BoolOp .Or (x :: y :: r) p => okIf (!isIfE x && (!r.isEmpty || !isIfE y)) (x, match r with
    | [] => y
    | z :: r => .BoolOp .Or (y :: z :: r) p)
  | _ => none
def vIte : PySem.Expr → Option (PySem.Expr × PySem.Expr × PySem.Expr)
  | .IfExp x y z _ => okIf (!isIfE x) (x, y, z)
  | _ => none
def vCmp2 (o o' : Op2) : PySem.Expr → Option (PySem.Expr × PySem.Expr × PySem.Expr)
  | .Compare l [op, op'] [m, r] _ => okIf (cmM o op && cmM o' op' && notSet r) (l, m, r)
  | _ => none
def vGet2 : PySem.Expr → Option (PySem.Expr × PySem.Expr × PySem.Expr)
  | .Call (.Attribute l m apos) [r, y] [] cpos => okIf (decide (m = ("get" : Str)) && abB l && (apos.endLine == cpos.line)) (l, r, y)
  | _ => none
def vCall (sc : Scope) (fd : FDef) : PySem.Expr → Option (List PySem.Expr)
  | .Call (.Name x _) xs [] _ => okIf (decide (fd.name = x) && glB sc x && !dbg x && decide (xs.length ≤ fd.ps.length) && decide (fd.ps.length ≤ xs.length + fd.dfl.length)) xs
  | _ => none
def vIter (sc : Scope) (io : ItOp) (a : PySem.Expr) : Option (List PySem.Expr) := match io with
  | .of => okIf (notSet a) [a]
  | .keys => okIf (notSet a) [a]
  | .range => (match a with
    | .Call (.Name f _) [x] [] _ => okIf (blB S sc f "range") [x]
    | .Call (.Name f _) [x, y] [] _ => okIf (blB S sc f "range") [x, y]
    | .Call (.Name f _) [x, y, z] [] _ => okIf (blB S sc f "range") [x, y, z]
    | _ => none)
  | .enum => (match a with
    | .Call (.Name f _) [x] [] _ => okIf (blB S sc f "enumerate") [x]
    | _ => none)
  | .rev => (match a with
    | .Call (.Name f _) [x] [] _ => okIf (blB S sc f "reversed") [x]
    | _ => none)
  | .zip => (match a with
    | .Call (.Name f _) [x, y] [] _ => okIf (blB S sc f "zip") [x, y]
    | _ => none)
  | .items => (match a with
    | .Call (.Attribute x m apos) [] [] cpos => okIf (decide (m = ("items" : Str)) && abB x && (apos.endLine == cpos.line)) [x]
    | _ => none)
  | .vals => (match a with
    | .Call (.Attribute x m apos) [] [] cpos => okIf (decide (m = ("values" : Str)) && abB x && (apos.endLine == cpos.line)) [x]
    | _ => none)
def ioPr : ItOp → Bool
  | .enum => true
  | .zip => true
  | .items => true
  | _ => false
def ioD : ItOp → Bool
  | .keys => true
  | .items => true
  | .vals => true
  | _ => false
def cB (io : ItOp) (cls : List Cl) : List Cl := if ioD io = true then toB cls else cls
def isVarN (cls : List Cl) : List E → Bool
  | [.var i] => decide (clA cls i ≠ .O)
  | _ => false
def vComp : PySem.Expr → Option (PySem.Expr × PySem.Expr × PySem.Expr × List PySem.Expr × Scope)
  | .ListComp elt [⟨tg, iter, ifs, 0⟩] scope _ => some (elt, tg, iter, ifs, scope)
  | _ => none
def noIfs (l : List PySem.Expr) : Bool := l.all (fun x => !isIfE x) && decide (l.length ≤ 1)
mutual
def chkE (sc : Scope) (cls : List Cl) : E → PySem.Expr → Bool
  | .var i, a => vName S sc i a
  | .lit d, a => vLit d a
  | .glb x d, a => vGlb S sc x d a
  | .op1 o e, a => (match vOp1 S sc o a with
    | some x => chkE sc cls e x
    | none => false)
  | .op2 o e f, a => (match vOp2 S sc o a with
    | some (x, y) => chkE sc cls e x && chkE sc cls f y
    | none => false)
  | .isi e t, a => (match vIsi S sc t a with
    | some x => chkE sc cls e x
    | none => false)
  | .tup es, a => (match vTup a with
    | some xs => chkEs sc cls es xs && vposs cls es && decide (es.length ≤ 1000)
    | none => false)
  | .lst es, a => (match vLst a with
    | some xs => chkEs sc cls es xs && vposs cls es && decide (es.length ≤ 1000)
    | none => false)
  | .dct [] [], a => vDct0 a
  | .dct [k] [v], a => (match vDct1 a with
    | some (x, y) => chkE sc cls k x && chkE sc cls v y && vpos cls v
    | none => false)
  | .dct _ _, a => false
  | .slice e lo hi, a => (match vSlice a with
    | some (x, l, h) => chkE sc cls e x && chkO sc cls lo l && chkO sc cls hi h
    | none => false)
  | .rev e, a => (match vRev a with
    | some x => chkE sc cls e x
    | none => false)
  | .and_ e f, a => (match vAnd a with
    | some (x, y) => chkE sc cls e x && chkE sc cls f y && vpos cls e && vpos cls f
    | none => false)
  | .or_ e f, a => (match vOr a with
    | some (x, y) => chkE sc cls e x && chkE sc cls f y && vpos cls e && vpos cls f
    | none => false)
  | .ite c e f, a => (match vIte a with
    | some (x, y, z) => chkE sc cls c x && chkE sc cls e y && chkE sc cls f z && vpos cls e && vpos cls f
    | none => false)
  | .cmp2 o o' c e f, a => (match vCmp2 o o' a with
    | some (x, y, z) => chkE sc cls c x && chkE sc cls e y && chkE sc cls f z
    | none => false)
  | .get2 c e f, a => (match vGet2 a with
    | some (x, y, z) => chkE sc cls c x && chkE sc cls e y && chkE sc cls f z && vpos cls f
    | none => false)
  | .call f args, a => (match S.fds[f]? with
    | some fd => (match vCall sc fd a with
      | some xs => chkEs sc cls args xs && posOk cls fd.cls args && fd.io.isEmpty && noO fd.cls
      | none => false)
    | none => false)
  | .comp elt tg io src conds, a => (match vComp a with
    | some (elt', tg', iter', ifs', scope') =>
      (match vIter S sc io iter' with
      | some xs => chkEs sc (cB io cls) src xs && notSet iter' && (!ioPr io || isTupTg tg) && (!ioD io || isVarN (cB io cls) src) && blkC S.N sc scope' (tgOwn S.N tg) && tgB S.N scope' tg tg' && tgF (cB io cls) (ixT tg) && noIfs ifs' &&
        chkEs (relS scope' sc) (clsT (cB io cls) tg) conds ifs' && chkE (relS scope' sc) (clsT (cB io cls) tg) elt elt' && vpos (clsT (cB io cls) tg) elt
      | none => false)
    | none => false)
def chkEs (sc : Scope) (cls : List Cl) : List E → List PySem.Expr → Bool
  | [], [] => true
  | e :: es, x :: xs => chkE sc cls e x && chkEs sc cls es xs
  | _, _ => false
def chkO (sc : Scope) (cls : List Cl) : Option E → Option PySem.Expr → Bool
  | none, none => true
  | some e, some x => chkE sc cls e x
  | _, _ => false
end
end
end PyI
end

section
set_option maxRecDepth 100000
set_option maxHeartbeats 4000000
namespace PyI
open PySem PySem.Spec PyProof.Rows L2
/-! ### readings by data -/
abbrev EvD := PyI.Env → Option D
def tG (K : PySem.W.Frag) (cls : List Cl) (Post : Hp → Hp → Hp → V → D → Prop) (ev : EvD) : TE := fun σ H Q => ∃ Γ L G env d, EnvRel K Γ L cls G env σ H ∧ ev env = some d ∧ ∀ v G' H', Step (L ++ Γ.L0) G H G' H' → Post G' H H' v d → Q v H'
def PX (K : PySem.W.Frag) (b : Bool) : Hp → Hp → Hp → V → D → Prop := fun G' H H' v d => PostB K b G' H H' v d
def PV (K : PySem.W.Frag) : Hp → Hp → Hp → V → D → Prop := fun G' _ _ v d => Rep K G' v d
def PR (K : PySem.W.Frag) : Hp → Hp → Hp → V → D → Prop := fun G' _ H' v d => RepT K G' H' v d
def tT (K : PySem.W.Frag) (cls : List Cl) (ev : EvD) : TT := fun σ H Q => ∃ Γ L G env b, EnvRel K Γ L cls G env σ H ∧ ev env = some (.bl b) ∧ ∀ G' H', Step (L ++ Γ.L0) G H G' H' → Q b H'
inductive RepPs (K : PySem.W.Frag) (G H : Hp) : List Bool → List V → List D → Prop
  | nil {ps : List Bool} : RepPs K G H ps [] []
  | consV {ps : List Bool} {v : V} {d : D} {vs : List V} {ds : List D} : Rep K G v d → RepPs K G H ps vs ds → RepPs K G H (true :: ps) (v :: vs) (d :: ds)
  | consR {ps : List Bool} {v : V} {d : D} {vs : List V} {ds : List D} : RepT K G H v d → RepPs K G H ps vs ds → RepPs K G H (false :: ps) (v :: vs) (d :: ds)
def tAs (K : PySem.W.Frag) (cls : List Cl) (ps : List Bool) (ev : PyI.Env → Option (List D)) : TA := fun σ H Q => ∃ Γ L G env ds, EnvRel K Γ L cls G env σ H ∧ ev env = some ds ∧ ∀ vs G' H', Step (L ++ Γ.L0) G H G' H' → RepPs K G' H' ps vs ds → Q vs H'
section
variable {K : PySem.W.Frag} {G G' H H' H1 : Hp} {L : List Addr} {v : V} {d : D}
theorem ResF.back (e : Ex H H1) (r : ResF K G' H1 H' v d) : ResF K G' H H' v d := by
  cases d with
  | lst ds => obtain ⟨a, e1, g, n, r⟩ := r; exact ⟨a, e1, g, fresh_back e n, r⟩
  | dic ds => obtain ⟨a, e1, g, n, r⟩ := r; exact ⟨a, e1, g, fresh_back e n, r⟩
  | _ => exact r
theorem PostB.back {b : Bool} (e : Ex H H1) (r : PostB K b G' H1 H' v d) : PostB K b G' H H' v d := by
  cases b with
  | true => exact ResF.back e r
  | false => exact r
theorem RepPs.step (s : Step L G H G' H') {ps : List Bool} {vs : List V} {ds : List D} (h : RepPs K G H ps vs ds) : RepPs K G' H' ps vs ds := by
  induction h with
  | nil => exact .nil
  | consV r _ ih => exact .consV (r.mono s.gg) ih
  | consR r _ ih => exact .consR (r.step s) ih
theorem RepPs.length {ps : List Bool} {vs : List V} {ds : List D} (h : RepPs K G H ps vs ds) : vs.length = ds.length := by
  induction h with
  | nil => rfl
  | consV r _ ih => simp [ih]
  | consR r _ ih => simp [ih]
theorem RepPs.all {ps : List Bool} {vs : List V} {ds : List D} (h : RepPs K G H ps vs ds) (hp : ∀ b ∈ ps, b = true) : RepL K G vs ds := by
  induction h with
  | nil => exact .nil
  | consV r _ ih => exact .cons r (ih fun b hb => hp b (List.mem_cons_of_mem _ hb))
  | consR r _ ih => have := hp false List.mem_cons_self; cases this
end
section
variable {X : Cx} {cls : List Cl} {e a b c : PySem.Expr} {ea eb ec : EvD} {pos : Pos}
theorem toV {bb : Bool} (h : PE X e (tG X.K cls (PX X.K bb) ea)) : PE X e (tG X.K cls (PV X.K) ea) := by
  cases bb with
  | false => exact h
  | true =>
    refine PE.imp h fun σ H Q ⟨Γ, L, G, env, d, E, hv, k⟩ => ⟨Γ, L, G, env, d, E, hv, fun v G' H' s r => ?_⟩
    obtain ⟨G'', s', r'⟩ := ResF.freeze E.fz s r
    exact k v G'' H' s' r'
theorem toR (h : PE X e (tG X.K cls (PV X.K) ea)) : PE X e (tG X.K cls (PR X.K) ea) :=
  PE.imp h fun σ H Q ⟨Γ, L, G, env, d, E, hv, k⟩ => ⟨Γ, L, G, env, d, E, hv, fun v G' H' s r => k v G' H' s (r.toT s.fz)⟩
/-! names, constants -/
theorem s_varR {i : Nat} {x : Str} (hN : X.N[i]? = some x) (hv : Vis X.env.scope x) (h1 : (x == ("__debug__" : Str)) = false) (h2 : (x == ("__classdict__" : Str)) = false) : PE X (.Name x pos) (tG X.K cls (PR X.K) fun env => look env i) :=
  PE.imp (pe_var hN hv h1 h2) fun σ H Q ⟨Γ, L, G, env, d, E, hl, k⟩ => by
    obtain ⟨v, e1, e2⟩ := E.look hl
    exact ⟨v, e1, k v G H (Step.refl E.fz) (e2.toT E)⟩
theorem s_varV {i : Nat} {x : Str} (hN : X.N[i]? = some x) (hv : Vis X.env.scope x) (h1 : (x == ("__debug__" : Str)) = false) (h2 : (x == ("__classdict__" : Str)) = false) (hc : clA cls i = .F) : PE X (.Name x pos) (tG X.K cls (PV X.K) fun env => look env i) :=
  PE.imp (pe_var hN hv h1 h2) fun σ H Q ⟨Γ, L, G, env, d, E, hl, k⟩ => by
    obtain ⟨v, e1, e2⟩ := E.look hl
    rw [hc] at e2
    exact ⟨v, e1, k v G H (Step.refl E.fz) e2⟩
theorem s_const {v : V} {d : D} {G0 : Hp} (h : PE X e (tC v)) (r : Rep X.K (fun _ => none) v d) : PE X e (tG X.K cls (PV X.K) fun _ => some d) :=
  PE.imp h fun σ H Q ⟨Γ, L, G, env, d', E, hl, k⟩ => by
    cases hl
    exact k v G H (Step.refl E.fz) (r.mono fun _ _ e => by cases e)
/-! operators -/
def ev2 (o : Op2) (ea eb : EvD) : EvD := fun env => match ea env with
  | some x => (match eb env with
    | some y => sem2 o x y
    | none => none)
  | none => none
theorem ev2_inv {o : Op2} {env : PyI.Env} {d : D} (h : ev2 o ea eb env = some d) : ∃ x y, ea env = some x ∧ eb env = some y ∧ sem2 o x y = some d := by
  unfold ev2 at h
  split at h
  · rename_i x hx
    split at h
    · rename_i y hy
      exact ⟨x, y, hx, hy, h⟩
    · cases h
  · cases h
theorem use2 {o : Op2} {f : Value → Value → Sem Value} (σ : L2.St) (H : Hp) (Q : VK) (h : tG X.K cls (PX X.K (freshOp2 o)) (ev2 o ea eb) σ H Q) : tOp (rS X.K o) (tG X.K cls (PR X.K) ea) (tG X.K cls (PR X.K) eb) σ H Q := by
  obtain ⟨Γ, L, G, env, d, E, hl, k⟩ := h
  obtain ⟨x, y, hx, hy, hs⟩ := ev2_inv hl
  exact ⟨Γ, L, G, env, x, E, hx, fun v G1 H1 s1 r1 => ⟨Γ, L, G1, env, y, E.step s1, hy, fun w G2 H2 s2 r2 => ⟨_, G2, x, y, d, s2.fz, r1.step s2, r2, hs, fun z G' H' s r => k z G' H' (s1.trans (s2.trans s)) (r.back (s1.hh.trans s2.hh))⟩⟩⟩
theorem s_bin {o : Op2} {op : Operator} (ho : OpR X (binaryOp op) (rS X.K o)) (ha : PE X a (tG X.K cls (PR X.K) ea)) (hb : PE X b (tG X.K cls (PR X.K) eb)) : PE X (.BinOp a op b pos) (tG X.K cls (PX X.K (freshOp2 o)) (ev2 o ea eb)) :=
  PE.imp (pe_op ho ha hb) fun σ H Q h => use2 (f := binaryOp op) σ H Q h
theorem s_cmp {o : Op2} {op : CmpOp} (ho : OpR X (compareOp op) (rS X.K o)) (ha : PE X a (tG X.K cls (PR X.K) ea)) (hb : PE X b (tG X.K cls (PR X.K) eb)) (hm : behindInMarks op b = false) : PE X (.Compare a [op] [b] pos) (tG X.K cls (PX X.K (freshOp2 o)) (ev2 o ea eb)) :=
  PE.imp (pe_cmpR ho ha hb hm) fun σ H Q h => use2 (f := compareOp op) σ H Q h
theorem s_cmpT {o : Op2} {op : CmpOp} (hf : freshOp2 o = false) (ho : OpR X (compareOp op) (rS X.K o)) (ha : PE X a (tG X.K cls (PR X.K) ea)) (hb : PE X b (tG X.K cls (PR X.K) eb)) (hm : behindInMarks op b = false) : PT X (.Compare a [op] [b] pos) (tT X.K cls (ev2 o ea eb)) :=
  PT.imp (pt_cmpR ho ha hb hm) fun σ H Q ⟨Γ, L, G, env, k, E, hl, q⟩ => use2 (f := compareOp op) σ H _ ⟨Γ, L, G, env, .bl k, E, hl, fun v G' H' s r => by
    rw [hf] at r
    have r' : Rep X.K G' v (.bl k) := r
    cases r'
    exact ⟨k, rfl, q G' H' s⟩⟩
def ev3 (o o' : Op2) (ea eb ec : EvD) : EvD := fun env => match ea env with
  | some x => (match eb env with
    | some y => (match sem2 o x y with
      | some (.bl true) => (match ec env with
        | some z => sem2 o' y z
        | none => none)
      | some (.bl false) => some (.bl false)
      | _ => none)
    | none => none)
  | none => none
theorem use3 {o o' : Op2} (hf : freshOp2 o = false) (σ : L2.St) (H : Hp) (Q : VK) (h : tG X.K cls (PX X.K (freshOp2 o')) (ev3 o o' ea eb ec) σ H Q) : tChain (rS X.K o) (rS X.K o') (tG X.K cls (PR X.K) ea) (tG X.K cls (PR X.K) eb) (tG X.K cls (PR X.K) ec) σ H Q := by
  obtain ⟨Γ, L, G, env, d, E, hl, k⟩ := h
  cases hx : ea env with
  | none => simp [ev3, hx] at hl
  | some x =>
    cases hy : eb env with
    | none => simp [ev3, hx, hy] at hl
    | some y =>
      refine ⟨Γ, L, G, env, x, E, hx, fun v G1 H1 s1 r1 => ⟨Γ, L, G1, env, y, E.step s1, hy, fun w G2 H2 s2 r2 => ?_⟩⟩
      cases hs : sem2 o x y with
      | none => simp [ev3, hx, hy, hs] at hl
      | some z =>
        refine ⟨_, G2, x, y, z, s2.fz, r1.step s2, r2, hs, fun u G3 H3 s3 r3 => ?_⟩
        rw [hf] at r3
        have r3' : Rep X.K G3 u z := r3
        cases z with
        | bl q =>
          cases r3'
          refine ⟨q, rfl, ?_⟩
          cases q with
          | false =>
            simp [ev3, hx, hy, hs] at hl
            subst hl
            rw [if_neg (by decide)]
            exact k _ G3 H3 (s1.trans (s2.trans s3)) (by
              unfold PX
              cases freshOp2 o' with
              | true => exact (Rep.bl false : Rep X.K G3 _ _)
              | false => exact Rep.bl false)
          | true =>
            rw [if_pos rfl]
            cases hz : ec env with
            | none => simp [ev3, hx, hy, hs, hz] at hl
            | some z =>
              simp [ev3, hx, hy, hs, hz] at hl
              exact ⟨Γ, L, G3, env, z, E.step (s1.trans (s2.trans s3)), hz, fun t G4 H4 s4 r4 => ⟨_, G4, y, z, d, s4.fz, RepT.step (s3.trans s4) r2, r4, hl, fun t' G5 H5 s5 r5 =>
                k t' G5 H5 (s1.trans (s2.trans (s3.trans (s4.trans s5)))) (PostB.back (s1.hh.trans (s2.hh.trans (s3.hh.trans s4.hh))) r5)⟩⟩
        | _ => simp [ev3, hx, hy, hs] at hl
theorem s_chain {o o' : Op2} {op op' : CmpOp} (hf : freshOp2 o = false) (ho : OpR X (compareOp op) (rS X.K o)) (ho' : OpR X (compareOp op') (rS X.K o')) (ha : PE X a (tG X.K cls (PR X.K) ea)) (hb : PE X b (tG X.K cls (PR X.K) eb)) (hc : PE X c (tG X.K cls (PR X.K) ec))
    (hm : lastMarks [op, op'] [b, c] = false) : PE X (.Compare a [op, op'] [b, c] pos) (tG X.K cls (PX X.K (freshOp2 o')) (ev3 o o' ea eb ec)) :=
  PE.imp (pe_chain ho ho' ha hb hc hm) fun σ H Q h => use3 hf σ H Q h
theorem s_chainT {o o' : Op2} {op op' : CmpOp} (hf : freshOp2 o = false) (hf' : freshOp2 o' = false) (ho : OpR X (compareOp op) (rS X.K o)) (ho' : OpR X (compareOp op') (rS X.K o')) (ha : PE X a (tG X.K cls (PR X.K) ea)) (hb : PE X b (tG X.K cls (PR X.K) eb)) (hc : PE X c (tG X.K cls (PR X.K) ec))
    (hm : lastMarks [op, op'] [b, c] = false) : PT X (.Compare a [op, op'] [b, c] pos) (tT X.K cls (ev3 o o' ea eb ec)) :=
  PT.imp (pt_chain ho ho' ha hb hc hm) fun σ H Q ⟨Γ, L, G, env, k, E, hl, q⟩ => use3 hf σ H _ ⟨Γ, L, G, env, .bl k, E, hl, fun v G' H' s r => by
    rw [hf'] at r
    have r' : Rep X.K G' v (.bl k) := r
    cases r'
    exact ⟨k, rfl, q G' H' s⟩⟩
/-! tests -/
theorem s_test (h : PE X e (tG X.K cls (PV X.K) ea)) (he : ∀ whole, isTrue e X.env whole = (do let v ← whole; standAt e.pos; holding [v] (truthy v))) : PT X e (tT X.K cls ea) :=
  PT.imp (pt_val h he) fun σ H Q ⟨Γ, L, G, env, k, E, hl, q⟩ => ⟨Γ, L, G, env, .bl k, E, hl, fun v G' H' s r => by
    have r' : Rep X.K G' v (.bl k) := r
    cases r'
    exact ⟨k, rfl, q G' H' s⟩⟩
def evNot (ea : EvD) : EvD := fun env => match ea env with
  | some x => sem1 .not_ x
  | none => none
theorem not_inv {ea : EvD} {env : PyI.Env} {d : D} (h : evNot ea env = some d) : ∃ k, ea env = some (.bl k) ∧ d = .bl (!k) := by
  unfold evNot at h
  cases hx : ea env with
  | none => rw [hx] at h; cases h
  | some x =>
    rw [hx] at h
    cases x with
    | bl k => cases h; exact ⟨k, rfl, rfl⟩
    | _ => cases h
theorem s_notT (h : PT X a (tT X.K cls ea)) : PT X (.UnaryOp .Not a pos) (tT X.K cls (evNot ea)) :=
  PT.imp (pt_not h) fun σ H Q ⟨Γ, L, G, env, k, E, hl, q⟩ => by
    obtain ⟨k', h1, h2⟩ := not_inv hl
    cases h2
    exact ⟨Γ, L, G, env, k', E, h1, fun G' H' s => q G' H' s⟩
theorem s_not (h : PE X a (tG X.K cls (PV X.K) ea)) : PE X (.UnaryOp .Not a pos) (tG X.K cls (PV X.K) (evNot ea)) :=
  PE.imp (pe_not h) fun σ H Q ⟨Γ, L, G, env, d, E, hl, q⟩ => by
    obtain ⟨k', h1, h2⟩ := not_inv hl
    subst h2
    exact ⟨Γ, L, G, env, .bl k', E, h1, fun v G' H' s r => by
      have r' : Rep X.K G' v (.bl k') := r
      cases r'
      exact ⟨k', rfl, q _ G' H' s (Rep.bl _)⟩⟩
def evAnd (ea eb : EvD) : EvD := fun env => match ea env with
  | some (.bl true) => (match eb env with
    | some (.bl k) => some (.bl k)
    | _ => none)
  | some (.bl false) => some (.bl false)
  | _ => none
def evOr (ea eb : EvD) : EvD := fun env => match ea env with
  | some (.bl false) => (match eb env with
    | some (.bl k) => some (.bl k)
    | _ => none)
  | some (.bl true) => some (.bl true)
  | _ => none
theorem and_inv {env : PyI.Env} {d : D} (h : evAnd ea eb env = some d) : (ea env = some (.bl false) ∧ d = .bl false) ∨ ∃ k, ea env = some (.bl true) ∧ eb env = some (.bl k) ∧ d = .bl k := by
  unfold evAnd at h
  split at h
  · rename_i hx
    split at h
    · rename_i k hy; cases h; exact .inr ⟨k, hx, hy, rfl⟩
    · cases h
  · rename_i hx; cases h; exact .inl ⟨hx, rfl⟩
  · cases h
theorem or_inv {env : PyI.Env} {d : D} (h : evOr ea eb env = some d) : (ea env = some (.bl true) ∧ d = .bl true) ∨ ∃ k, ea env = some (.bl false) ∧ eb env = some (.bl k) ∧ d = .bl k := by
  unfold evOr at h
  split at h
  · rename_i hx
    split at h
    · rename_i k hy; cases h; exact .inr ⟨k, hx, hy, rfl⟩
    · cases h
  · rename_i hx; cases h; exact .inl ⟨hx, rfl⟩
  · cases h
theorem s_andW {rest : List PySem.Expr} (ha : PT X a (tT X.K cls ea)) (hb : PW X (.BoolOp .And (b :: rest) pos) (tT X.K cls eb)) : PW X (.BoolOp .And (a :: b :: rest) pos) (tT X.K cls (evAnd ea eb)) := by
  refine ⟨fun wh pins s σ H Q I h => (pw_and ha hb).run wh pins s σ H Q I ?_⟩
  obtain ⟨Γ, L, G, env, k, E, hl, q⟩ := h
  rcases and_inv hl with ⟨h1, h2⟩ | ⟨k', h1, h2, h3⟩
  · cases h2
    exact ⟨Γ, L, G, env, false, E, h1, fun G' H' s => q G' H' s⟩
  · cases h3
    exact ⟨Γ, L, G, env, true, E, h1, fun G1 H1 s1 => ⟨Γ, L, G1, env, k, E.step s1, h2, fun G' H' s => q G' H' (s1.trans s)⟩⟩
theorem s_orW {rest : List PySem.Expr} (ha : PT X a (tT X.K cls ea)) (hb : PW X (.BoolOp .Or (b :: rest) pos) (tT X.K cls eb)) : PW X (.BoolOp .Or (a :: b :: rest) pos) (tT X.K cls (evOr ea eb)) := by
  refine ⟨fun wh pins s σ H Q I h => (pw_or ha hb).run wh pins s σ H Q I ?_⟩
  obtain ⟨Γ, L, G, env, k, E, hl, q⟩ := h
  rcases or_inv hl with ⟨h1, h2⟩ | ⟨k', h1, h2, h3⟩
  · cases h2
    exact ⟨Γ, L, G, env, true, E, h1, fun G' H' s => q G' H' s⟩
  · cases h3
    exact ⟨Γ, L, G, env, false, E, h1, fun G1 H1 s1 => ⟨Γ, L, G1, env, k, E.step s1, h2, fun G' H' s => q G' H' (s1.trans s)⟩⟩
theorem s_andV {rest : List PySem.Expr} (ha : PE X a (tG X.K cls (PV X.K) ea)) (hb : PE X (.BoolOp .And (b :: rest) pos) (tG X.K cls (PV X.K) eb)) : PE X (.BoolOp .And (a :: b :: rest) pos) (tG X.K cls (PV X.K) (evAnd ea eb)) :=
  PE.imp (pe_and ha hb) fun σ H Q ⟨Γ, L, G, env, d, E, hl, q⟩ => by
    rcases and_inv hl with ⟨h1, h2⟩ | ⟨k', h1, h2, h3⟩
    · subst h2
      exact ⟨Γ, L, G, env, _, E, h1, fun v G' H' s r => by
        have r' : Rep X.K G' v (.bl false) := r
        cases r'
        exact ⟨false, rfl, q _ G' H' s (Rep.bl _)⟩⟩
    · subst h3
      exact ⟨Γ, L, G, env, _, E, h1, fun v G1 H1 s1 r => by
        have r' : Rep X.K G1 v (.bl true) := r
        cases r'
        exact ⟨true, rfl, ⟨Γ, L, G1, env, _, E.step s1, h2, fun v G' H' s r => q v G' H' (s1.trans s) r⟩⟩⟩
theorem s_orV {rest : List PySem.Expr} (ha : PE X a (tG X.K cls (PV X.K) ea)) (hb : PE X (.BoolOp .Or (b :: rest) pos) (tG X.K cls (PV X.K) eb)) : PE X (.BoolOp .Or (a :: b :: rest) pos) (tG X.K cls (PV X.K) (evOr ea eb)) :=
  PE.imp (pe_or ha hb) fun σ H Q ⟨Γ, L, G, env, d, E, hl, q⟩ => by
    rcases or_inv hl with ⟨h1, h2⟩ | ⟨k', h1, h2, h3⟩
    · subst h2
      exact ⟨Γ, L, G, env, _, E, h1, fun v G' H' s r => by
        have r' : Rep X.K G' v (.bl true) := r
        cases r'
        exact ⟨true, rfl, q _ G' H' s (Rep.bl _)⟩⟩
    · subst h3
      exact ⟨Γ, L, G, env, _, E, h1, fun v G1 H1 s1 r => by
        have r' : Rep X.K G1 v (.bl false) := r
        cases r'
        exact ⟨false, rfl, ⟨Γ, L, G1, env, _, E.step s1, h2, fun v G' H' s r => q v G' H' (s1.trans s) r⟩⟩⟩
/-! arguments -/
theorem s_nil {ps : List Bool} : PA X [] (tAs X.K cls ps fun _ => some []) :=
  PA.imp pa_nil fun σ H Q ⟨Γ, L, G, env, ds, E, hl, k⟩ => by
    cases hl
    exact k [] G H (Step.refl E.fz) .nil
def evCons (ea : EvD) (es : PyI.Env → Option (List D)) : PyI.Env → Option (List D) := fun env => match ea env with
  | some x => (match es env with
    | some xs => some (x :: xs)
    | none => none)
  | none => none
theorem cons_inv {es : PyI.Env → Option (List D)} {env : PyI.Env} {d : List D} (h : evCons ea es env = some d) : ∃ x xs, ea env = some x ∧ es env = some xs ∧ d = x :: xs := by
  unfold evCons at h
  split at h
  · rename_i x hx
    split at h
    · rename_i y hy
      cases h
      exact ⟨x, y, hx, hy, rfl⟩
    · cases h
  · cases h
theorem s_consV {ps : List Bool} {es : List PySem.Expr} {ees : PyI.Env → Option (List D)} (ha : PE X a (tG X.K cls (PV X.K) ea)) (hr : PA X es (tAs X.K cls ps ees)) (hs : starEach (a :: es) X.env = (false, eval a X.env) :: starEach es X.env) : PA X (a :: es) (tAs X.K cls (true :: ps) (evCons ea ees)) :=
  PA.imp (pa_cons ha hr hs) fun σ H Q ⟨Γ, L, G, env, ds, E, hl, k⟩ => by
    obtain ⟨x, xs, h1, h2, h3⟩ := cons_inv hl
    subst h3
    exact ⟨Γ, L, G, env, x, E, h1, fun v G1 H1 s1 r1 => ⟨Γ, L, G1, env, xs, E.step s1, h2, fun vs G2 H2 s2 r2 => k (v :: vs) G2 H2 (s1.trans s2) (.consV (Rep.mono s2.gg r1) r2)⟩⟩
theorem s_consR {ps : List Bool} {es : List PySem.Expr} {ees : PyI.Env → Option (List D)} (ha : PE X a (tG X.K cls (PR X.K) ea)) (hr : PA X es (tAs X.K cls ps ees)) (hs : starEach (a :: es) X.env = (false, eval a X.env) :: starEach es X.env) : PA X (a :: es) (tAs X.K cls (false :: ps) (evCons ea ees)) :=
  PA.imp (pa_cons ha hr hs) fun σ H Q ⟨Γ, L, G, env, ds, E, hl, k⟩ => by
    obtain ⟨x, xs, h1, h2, h3⟩ := cons_inv hl
    subst h3
    exact ⟨Γ, L, G, env, x, E, h1, fun v G1 H1 s1 r1 => ⟨Γ, L, G1, env, xs, E.step s1, h2, fun vs G2 H2 s2 r2 => k (v :: vs) G2 H2 (s1.trans s2) (.consR (r1.step s2) r2)⟩⟩
/-! displays -/
def evTup (es : PyI.Env → Option (List D)) : EvD := fun env => match es env with
  | some xs => some (.tup xs)
  | none => none
def evLst (es : PyI.Env → Option (List D)) : EvD := fun env => match es env with
  | some xs => some (.lst xs)
  | none => none
def tTupN (t : TA) : TE := fun σ H Q => t σ H fun xs H1 => xs.length ≤ sizeLine ∧ ∀ p its, H1 p = none → Q (.ref p) (upd H1 p (.frz (tupObj its) (.tup xs)))
theorem pe_tupN {es : List PySem.Expr} {t : TA} {x1 : Nat} (h : PA X es t) : PE X (.Tuple es x1 pos) (tTupN t) := by
  refine ⟨fun pins s σ H Q I hq => ?_⟩
  refine wpAny_Tuple_spliced (thn (h.run pos pins s σ H _ I hq) fun us s1 ⟨xs, H1, I1, r, z, q⟩ => ⟨by rw [← r.length]; exact z, ?_⟩)
  exact ⟨.ref s1.heap.objs.size, _, Inv.newTup I1 r z s1.toks, rfl, q _ _ (I1.hok.fresh (Nat.le_refl _))⟩
theorem evs_len {ps : List Bool} {es : List PySem.Expr} (n : Nat) (h : es.length ≤ 1000) : es.length ≤ sizeLine := Nat.le_trans h (by decide)
theorem s_tup {n : Nat} {es : List PySem.Expr} {ees : PyI.Env → Option (List D)} {x1 : Nat} (h : PA X es (tAs X.K cls (List.replicate n true) ees)) (hz : ∀ env ds, ees env = some ds → ds.length ≤ sizeLine) : PE X (.Tuple es x1 pos) (tG X.K cls (PV X.K) (evTup ees)) :=
  PE.imp (pe_tupN h) fun σ H Q ⟨Γ, L, G, env, d, E, hl, k⟩ => by
    unfold evTup at hl
    cases hx : ees env with
    | none => rw [hx] at hl; cases hl
    | some ds =>
      rw [hx] at hl
      cases hl
      exact ⟨Γ, L, G, env, ds, E, hx, fun vs G1 H1 s1 r1 => ⟨by rw [r1.length]; exact hz env ds hx, fun p its hp => new_tup s1.fz (r1.all fun b hb => (List.mem_replicate.mp hb).2) (fun v G' H' s r => k v G' H' (s1.trans s) r) its hp⟩⟩
theorem s_lst {n : Nat} {es : List PySem.Expr} {ees : PyI.Env → Option (List D)} (h : PA X es (tAs X.K cls (List.replicate n true) ees)) (hz : ∀ env ds, ees env = some ds → ds.length ≤ sizeLine) : PE X (.List es pos) (tG X.K cls (PX X.K true) (evLst ees)) :=
  PE.imp (pe_lst h) fun σ H Q ⟨Γ, L, G, env, d, E, hl, k⟩ => by
    unfold evLst at hl
    cases hx : ees env with
    | none => rw [hx] at hl; cases hl
    | some ds =>
      rw [hx] at hl
      cases hl
      exact ⟨Γ, L, G, env, ds, E, hx, fun vs G1 H1 s1 r1 => ⟨by rw [r1.length]; exact hz env ds hx, fun p hp => new_lst s1.fz (r1.all fun b hb => (List.mem_replicate.mp hb).2) (fun v G' H' s r => k v G' H' (s1.trans s) (ResF.back s1.hh r)) hp⟩⟩
end
end PyI
end

section
set_option maxRecDepth 100000
set_option maxHeartbeats 4000000
namespace PyI
open PySem PySem.Spec PyProof.Rows L2
def evOp1 (o : Op1) (ea : EvD) : EvD := fun env => match ea env with
  | some x => sem1 o x
  | none => none
theorem op1_inv {o : Op1} {ea : EvD} {env : PyI.Env} {d : D} (h : evOp1 o ea env = some d) : ∃ x, ea env = some x ∧ sem1 o x = some d := by
  unfold evOp1 at h
  split at h
  · rename_i x hx; exact ⟨x, hx, h⟩
  · cases h
section
variable {X : Cx} {cls : List Cl} {e a b c : PySem.Expr} {ea eb ec : EvD} {pos p : Pos} {x : Str}
theorem one_arg (ha : PE X a (tG X.K cls (PR X.K) ea)) (hn : notStar a = true) : PA X [a] (tAs X.K cls [false] (evCons ea fun _ => some [])) ∧ starEach [a] X.env = (false, eval a X.env) :: starEach [] X.env := by
  have hs : starEach [a] X.env = (false, eval a X.env) :: starEach [] X.env := by cases a <;> first | rfl | cases hn
  exact ⟨s_consR ha s_nil hs, hs⟩
theorem two_args (ha : PE X a (tG X.K cls (PR X.K) ea)) (hn : notStar a = true) (hb : PE X b (tG X.K cls (PR X.K) eb)) (hn' : notStar b = true) : PA X [a, b] (tAs X.K cls [false, false] (evCons ea (evCons eb fun _ => some []))) ∧
    starEach [a, b] X.env = (false, eval a X.env) :: starEach [b] X.env ∧ starEach [b] X.env = (false, eval b X.env) :: starEach [] X.env := by
  obtain ⟨pb, hs⟩ := one_arg hb hn'
  have hs2 : starEach [a, b] X.env = (false, eval a X.env) :: starEach [b] X.env := by cases a <;> first | rfl | cases hn
  exact ⟨s_consR ha pb hs2, hs2, hs⟩
theorem use1 {o : Op1} (σ : L2.St) (H : Hp) (Q : VK) (h : tG X.K cls (PX X.K (freshOp1 o)) (evOp1 o ea) σ H Q) : tCB (r1 X.K o) (tAs X.K cls [false] (evCons ea fun _ => some [])) σ H Q := by
  obtain ⟨Γ, L, G, env, d, E, hl, k⟩ := h
  obtain ⟨x, hx, hs⟩ := op1_inv hl
  refine ⟨Γ, L, G, env, [x], E, by simp [evCons, hx], fun vs G1 H1 s1 r1 => ?_⟩
  cases r1 with
  | consR t r =>
    cases r
    exact ⟨_, G1, _, x, d, rfl, s1.fz, t, hs, fun v G' H' s r => k v G' H' (s1.trans s) (PostB.back s1.hh r)⟩
theorem s_call1B {o : Op1} {id : String} (hc : CallR X (.builtin id) (r1 X.K o)) (hg : Gl X x) (hm : X.mg x = none) (hv : bootBuiltins x = some (.builtin id)) (ha : PE X a (tG X.K cls (PR X.K) ea)) (hn : notStar a = true) (h1 : x ≠ "__name__") (h2 : (x == ("__debug__" : Str)) = false) :
    PE X (.Call (.Name x p) [a] [] pos) (tG X.K cls (PX X.K (freshOp1 o)) (evOp1 o ea)) := by
  obtain ⟨pa, hs⟩ := one_arg ha hn
  exact PE.imp (pe_callB hc hg hm hv pa h1 h2 hs rfl) use1
theorem s_call1T {o : Op1} {T : String} (hc : CallR X (.type T) (r1 X.K o)) (hg : Gl X x) (hm : X.mg x = none) (hv : bootBuiltins x = some (.type T)) (ha : PE X a (tG X.K cls (PR X.K) ea)) (hn : notStar a = true) (h1 : x ≠ "__name__") (h2 : (x == ("__debug__" : Str)) = false) :
    PE X (.Call (.Name x p) [a] [] pos) (tG X.K cls (PX X.K (freshOp1 o)) (evOp1 o ea)) := by
  obtain ⟨pa, hs⟩ := one_arg ha hn
  exact PE.imp (pe_callTy hc hg hm hv pa h1 h2 hs rfl) use1
theorem s_call2B {o : Op2} {id : String} (hc : CallR X (.builtin id) (r2c X.K o)) (hg : Gl X x) (hm : X.mg x = none) (hv : bootBuiltins x = some (.builtin id)) (ha : PE X a (tG X.K cls (PR X.K) ea)) (hn : notStar a = true) (hb : PE X b (tG X.K cls (PR X.K) eb)) (hn' : notStar b = true)
    (h1 : x ≠ "__name__") (h2 : (x == ("__debug__" : Str)) = false) : PE X (.Call (.Name x p) [a, b] [] pos) (tG X.K cls (PV X.K) (ev2 o ea eb)) := by
  obtain ⟨pa, hs, hs'⟩ := two_args ha hn hb hn'
  have hpl : (backTo pos (starEach [b] X.env)).any (·.1) = false := by rw [hs']; rfl
  refine PE.imp (pe_callB hc hg hm hv pa h1 h2 hs hpl) fun σ H Q ⟨Γ, L, G, env, d, E, hl, k⟩ => ?_
  obtain ⟨x, y, hx, hy, hsm⟩ := ev2_inv hl
  refine ⟨Γ, L, G, env, [x, y], E, by simp [evCons, hx, hy], fun vs G1 H1 s1 r1 => ?_⟩
  cases r1 with
  | consR t r =>
    cases r with
    | consR t' r =>
      cases r
      exact ⟨_, G1, _, _, x, y, d, rfl, s1.fz, t, t', hsm, fun v G' H' s r => k v G' H' (s1.trans s) r⟩
/-! isinstance -/
inductive DK | non | bl | int | str | tup | lst | dic
def dk : D → DK
  | .non => .non
  | .bl _ => .bl
  | .int _ => .int
  | .str _ => .str
  | .tup _ => .tup
  | .lst _ => .lst
  | .dic _ => .dic
def kN : DK → String
  | .non => "NoneType"
  | .bl => "bool"
  | .int => "int"
  | .str => "str"
  | .tup => "tuple"
  | .lst => "list"
  | .dic => "dict"
def tyD (d : D) : String := kN (dk d)
def ofK : Ty → DK → Bool
  | .int, .int => true
  | .int, .bl => true
  | .bool, .bl => true
  | .str, .str => true
  | .tuple, .tup => true
  | .list, .lst => true
  | .dict, .dic => true
  | _, _ => false
theorem ofTy_eq (t : Ty) (d : D) : ofTy t d = ofK t (dk d) := by cases t <;> cases d <;> rfl
def tyN : Ty → String
  | .int => "int"
  | .bool => "bool"
  | .str => "str"
  | .tuple => "tuple"
  | .list => "list"
  | .dict => "dict"
theorem kit_all {K : PySem.W.Frag} (d : D) (t : Ty) : PySem.W.kitOne K (.type (tyD d)) (.type (tyN t)) = some (ofTy t d) := by
  rw [ofTy_eq]
  unfold tyD
  generalize dk d = q
  cases t <;> cases q <;> exact kit_ty (by decide +kernel)
theorem tyX_of {K : PySem.W.Frag} {L : List Addr} {G H : Hp} {v : V} {d : D} (f : Fz L G H) (r : RepT K G H v d) : TyX K H v (.type (tyD d)) := by
  cases d with
  | non => cases (show v = _ from r); exact .base .non
  | bl b => cases (show v = _ from r); exact .base (.bl b)
  | int i => cases (show v = _ from r); exact .base (.int i)
  | str s => cases (show v = _ from r); exact .base (.str s)
  | tup ds =>
    cases r with
    | tup h _ =>
      rcases f.tupN h with ⟨its, h⟩ | ⟨o, its, n, h1, h2, _⟩
      · exact .fTuple h
      · exact .kTuple h1 h2
  | lst ds =>
    obtain ⟨a, xs, rfl, h, _⟩ := r
    rcases h with (h | ⟨o, h⟩) | ⟨o, its, n, h1, h2, _⟩
    · exact .base (.lst h)
    · exact .base (.frz h)
    · exact .kList h1 h2
  | dic es =>
    obtain ⟨a, ks, rfl, h | ⟨o, h⟩, _⟩ := r
    · exact .base (.dK h)
    · exact .fDict h
def evIsi (t : Ty) (ea : EvD) : EvD := fun env => match ea env with
  | some x => some (.bl (ofTy t x))
  | none => none
theorem boot_ty (t : Ty) : bootBuiltins (tyName t) = some (.type (tyN t)) := by cases t <;> decide +kernel
theorem s_isi {t : Ty} {y : Str} {p' : Pos} (hg : Gl X x) (hm : X.mg x = none) (hx : x = "isinstance") (hgy : Gl X y) (hmy : X.mg y = none) (hy : y = tyName t) (ha : PE X a (tG X.K cls (PR X.K) ea)) (hn : notStar a = true) (h2 : (y == ("__debug__" : Str)) = false) (h1 : y ≠ "__name__") :
    PE X (.Call (.Name x p) [a, .Name y p'] [] pos) (tG X.K cls (PV X.K) (evIsi t ea)) := by
  have hs : starEach [a, .Name y p'] X.env = (false, eval a X.env) :: starEach [.Name y p'] X.env := by cases a <;> first | rfl | cases hn
  have pb : PE X (.Name y p') (tC (.ty (tyN t))) := pe_bltn hgy hmy (by rw [hy]; exact boot_ty t) (by rfl) h1 h2
  subst hx
  refine PE.imp (pe_callB call_isi hg hm boot_isinstance (pa_cons ha (pa_cons pb pa_nil) hs) (by decide) (by decide) hs rfl) fun σ H Q ⟨Γ, L, G, env, d, E, hl, k⟩ => ?_
  unfold evIsi at hl
  cases hx : ea env with
  | none => rw [hx] at hl; cases hl
  | some z =>
    rw [hx] at hl
    cases hl
    exact ⟨Γ, L, G, env, z, E, hx, fun v G1 H1 s1 r1 => ⟨v, _, _, _, _, rfl, .ty _, tyX_of s1.fz r1, kit_all z t, k _ G1 H1 s1 (Rep.bl _)⟩⟩
/-! items -/
theorem s_ix (hu : X.A.units + 1 < cLine) (ha : PE X a (tG X.K cls (PR X.K) ea)) (hb : PE X b (tG X.K cls (PR X.K) eb)) (hn : notSlice b = true) : PE X (.Subscript a b pos) (tG X.K cls (PV X.K) (ev2 .ix ea eb)) := by
  have h1 : PlainIx b := by intro o i; cases b <;> first | rfl | cases hn
  have h2 : NoSl b := by intro o i; cases b <;> first | rfl | cases hn
  refine PE.imp (PE.or (pe_ix ix_seq ha hb h1) (pe_dget hu ha hb h2)) fun σ H Q ⟨Γ, L, G, env, d, E, hl, k⟩ => ?_
  obtain ⟨x, y, hx, hy, hs⟩ := ev2_inv hl
  by_cases hd : ∃ kvs, x = .dic kvs
  · obtain ⟨kvs, rfl⟩ := hd
    refine .inr ⟨Γ, L, G, env, _, E, hx, fun v G1 H1 s1 r1 => ⟨Γ, L, G1, env, y, E.step s1, hy, fun w G2 H2 s2 r2 => ?_⟩⟩
    have hs' : (match keyOf y with | some k => dget kvs k | none => none) = some d := hs
    cases hk : keyOf y with
    | none => rw [hk] at hs'; cases hs'
    | some key =>
      rw [hk] at hs'
      obtain ⟨a, o, rfl, g, _, get⟩ := dgetT (k := key) (RepT.step s2 r1)
      obtain ⟨u, rfl, ru⟩ := get d hs'
      cases keyT r2 hk
      exact ⟨a, u, rfl, g, k u G2 H2 (s1.trans s2) ru⟩
  · refine .inl ⟨Γ, L, G, env, x, E, hx, fun v G1 H1 s1 r1 => ⟨Γ, L, G1, env, y, E.step s1, hy, fun w G2 H2 s2 r2 => ?_⟩⟩
    exact ixS_seq s2.fz (RepT.step s2 r1) r2 hs (fun kvs e => hd ⟨kvs, e⟩) fun v G' H' s r => k v G' H' (s1.trans (s2.trans s)) r
/-! slices -/
def rSlN (K : PySem.W.Frag) : V → Option Int → Option Int → Hp → VK → Prop := fun x lo hi H Q => ∃ a xs, x = .ref a ∧ SqT K H a xs ∧
  (cutV xs lo hi = xs → Q (.ref a) H) ∧ (∀ p its, H p = none → Q (.ref p) (upd H p (.frz (tupObj its) (.tup (cutV xs lo hi)))))
theorem sl_tupN : SlR X (rSlN X.K) := by
  intro pins s σ H x v vl vu lo hi sl Q I rx hs pl pu h
  obtain ⟨a, xs, rfl, hx, q1, q2⟩ := h
  cases rx
  obtain ⟨its, r, ht, hz⟩ := I.tuple hx
  have hlen : its.toArray.size = xs.length := by rw [List.size_toArray]; exact r.length.symm
  refine ⟨"tuple", _, PyProof.Rows.slot_tuple_getitem.lookup, ht.typeIs, ?_⟩
  by_cases hw : HT.sIx xs.length 0 lo = 0 ∧ HT.sIx xs.length xs.length hi = xs.length
  · have e : cutV xs lo hi = xs := by unfold cutV; rw [hw.1, hw.2]; simp
    exact getItem_tuple_whole ht hs pl pu (by rw [hlen]; exact hw) ⟨.ref a, H, I, rfl, q1 e⟩
  · refine HT.getItem_tuple_cut ht hs pl pu (by rw [hlen]; exact hw) ?_ (by rw [hlen]; exact hz)
    rw [hlen]
    exact ⟨.ref s.heap.objs.size, _, Inv.newTup I ((r.drop (HT.sIx xs.length 0 lo)).take (HT.sIx xs.length xs.length hi - HT.sIx xs.length 0 lo)) (Nat.le_trans (cutV_length xs lo hi) hz) s.toks, rfl, q2 _ _ I.fresh⟩
def evO (eo : PyI.Env → Option (Option Int)) : PyI.Env → Option (Option Int) := eo
def tGO (K : PySem.W.Frag) (cls : List Cl) (ev : PyI.Env → Option (Option Int)) : TO := fun σ H Q => ∃ Γ L G env o, EnvRel K Γ L cls G env σ H ∧ ev env = some o ∧ ∀ G' H', Step (L ++ Γ.L0) G H G' H' → Q o H'
theorem s_poN : PO X none (tGO X.K cls fun _ => some none) := ⟨fun pins s σ H Q I h => by
  obtain ⟨Γ, L, G, env, o, E, hl, k⟩ := h
  cases hl
  exact po_none.run pins s σ H Q I (k G H (Step.refl E.fz))⟩
def evSome (ea : EvD) : PyI.Env → Option (Option Int) := fun env => match ea env with
  | some (.int i) => some (some i)
  | _ => none
theorem s_poS (ha : PE X a (tG X.K cls (PR X.K) ea)) : PO X (some a) (tGO X.K cls (evSome ea)) := ⟨fun pins s σ H Q I h => by
  obtain ⟨Γ, L, G, env, o, E, hl, k⟩ := h
  unfold evSome at hl
  split at hl
  · rename_i i hx
    cases hl
    exact (po_some ha).run pins s σ H Q I ⟨Γ, L, G, env, _, E, hx, fun v G' H' s r => ⟨i, r, k G' H' s⟩⟩
  · cases hl⟩
def evSlice (ea : EvD) (el eh : PyI.Env → Option (Option Int)) : EvD := fun env => match ea env with
  | some x => (match el env with
    | some l => (match eh env with
      | some h => sliceSem x l h
      | none => none)
    | none => none)
  | none => none
theorem slice_inv {el eh : PyI.Env → Option (Option Int)} {env : PyI.Env} {d : D} (h : evSlice ea el eh env = some d) : ∃ x l u, ea env = some x ∧ el env = some l ∧ eh env = some u ∧ sliceSem x l u = some d := by
  unfold evSlice at h
  split at h
  · rename_i x hx
    split at h
    · rename_i l hl
      split at h
      · rename_i u hu
        exact ⟨x, l, u, hx, hl, hu, h⟩
      · cases h
    · cases h
  · cases h
theorem s_slice {lo hi : Option PySem.Expr} {el eh : PyI.Env → Option (Option Int)} {p2 : Pos} (ha : PE X a (tG X.K cls (PR X.K) ea)) (hl : PO X lo (tGO X.K cls el)) (hh : PO X hi (tGO X.K cls eh)) : PE X (.Subscript a (.Slice lo hi none p2) pos) (tG X.K cls (PX X.K true) (evSlice ea el eh)) := by
  refine PE.imp (pe_slice (SlR.or sl_list (SlR.or sl_tupN sl_str)) ha hl hh) fun σ H Q ⟨Γ, L, G, env, d, E, hv, k⟩ => ?_
  obtain ⟨x, l, u, hx, h1, h2, hs⟩ := slice_inv hv
  refine ⟨Γ, L, G, env, x, E, hx, fun v G1 H1 s1 r1 => ⟨Γ, L, G1, env, l, E.step s1, h1, fun G2 H2 s2 => ⟨Γ, L, G2, env, u, E.step (s1.trans s2), h2, fun G3 H3 s3 => ?_⟩⟩⟩
  have r3 : RepT X.K G3 H3 v x := RepT.step (s2.trans s3) r1
  have st := s1.trans (s2.trans s3)
  cases x with
  | lst xs =>
    cases hs
    obtain ⟨a, ys, rfl, h, rr⟩ := r3
    exact .inl ⟨a, ys, rfl, h, fun p hp => new_lst s3.fz (rr.cut l u) (fun v G' H' s r => k v G' H' (st.trans s) (ResF.back st.hh r)) hp⟩
  | tup xs =>
    cases hs
    cases id r3 with
    | @tup a ys _ h rr =>
      refine .inr (.inl ⟨a, ys, rfl, s3.fz.sqT h.sq, fun e => ?_, fun p its hp => new_tup s3.fz (rr.cut l u) (fun v G' H' s r => k v G' H' (st.trans s) r) its hp⟩)
      refine k _ G3 H3 st ?_
      have rc := rr.cut l u
      rw [e] at rc
      exact (Rep.tup h rc : Rep X.K G3 _ _)
  | str z =>
    obtain ⟨c, e⟩ := ifs (show (if z.length ≤ BIG then some (D.str ⟨(cutL z.cps.toList l u).toArray⟩) else none) = some d from hs)
    subst e
    cases (show v = _ from r3)
    refine .inr (.inr ⟨z, rfl, Nat.le_trans c BIG_line, ?_⟩)
    refine k _ G3 H3 st ?_
    have e : cutS z l u = ⟨(cutL z.cps.toList l u).toArray⟩ := by
      unfold cutS cutL
      have e2 : z.cps.toList.length = z.length := by rw [Array.length_toList]; rfl
      rw [e2]
    rw [e]
    exact (Rep.str _ : Rep X.K G3 _ _)
  | _ => cases hs
/-! join -/
theorem join_eq (s : Str) (ys : List Str) : Txt.join s ys = joinS s ys := rfl
theorem abB_ok {env : PySem.Env} {m : Str} {whole : Sem Value} (h : abB a = true) : attributeBase a m env whole = whole := by
  unfold attributeBase
  split
  · rename_i id _ _
    have : (id != ("super" : Str)) = true := by simpa [abB] using h
    simp [this]
  · rfl
theorem s_join {apos : Pos} (ha : PE X a (tG X.K cls (PR X.K) ea)) (hb : PE X b (tG X.K cls (PR X.K) eb)) (hn : notStar b = true) (hbase : abB a = true) (hline : (apos.endLine == pos.line) = true) : PE X (.Call (.Attribute a "join" apos) [b] [] pos) (tG X.K cls (PV X.K) (ev2 .join ea eb)) := by
  have hs : starEach [b] X.env = [(false, eval b X.env)] := by cases b <;> first | rfl | cases hn
  have hb' : attributeBase a "join" X.env (eval a X.env) = eval a X.env := abB_ok hbase
  refine PE.imp (pe_join ha hb hs hb' hline) fun σ H Q ⟨Γ, L, G, env, d, E, hl, k⟩ => ?_
  obtain ⟨x, y, hx, hy, hsm⟩ := ev2_inv hl
  cases x with
  | str z =>
    cases y with
    | lst ys =>
      have h' : (match strsD ys with | some zs => if (zs.map (·.length)).sum + zs.length * z.length ≤ BIG then some (D.str (joinS z zs)) else none | none => none) = some d := hsm
      cases hst : strsD ys with
      | none => rw [hst] at h'; cases h'
      | some zs =>
        rw [hst] at h'
        obtain ⟨c, e⟩ := ifs h'
        subst e
        refine ⟨Γ, L, G, env, _, E, hx, fun v G1 H1 s1 r1 => ?_⟩
        cases (show v = _ from r1)
        refine ⟨⟨z, rfl⟩, Γ, L, G1, env, _, E.step s1, hy, fun w G2 H2 s2 r2 => ?_⟩
        obtain ⟨p, xs, rfl, h, rr⟩ := r2
        have e := rr.strsD hst
        subst e
        refine ⟨z, p, zs, rfl, rfl, .inl h, Nat.le_trans c (by decide), ?_⟩
        rw [join_eq]
        exact k _ G2 H2 (s1.trans s2) (Rep.str _)
    | _ => cases hsm
  | _ => cases hsm
end
end PyI
end

section
set_option maxRecDepth 100000
set_option maxHeartbeats 4000000
namespace PyI
open PySem PySem.Spec PyProof.Rows L2
section
variable {prog : Program} {w : World} {A : Around} {E : Value → Shared → Prop} {s : Shared}
theorem fm_congr {α β : Type} {f g : α → Option β} : ∀ {l : List α}, (∀ x ∈ l, f x = g x) → l.filterMap f = l.filterMap g
  | [], _ => rfl
  | x :: r, h => by
    rw [List.filterMap_cons, List.filterMap_cons, h x List.mem_cons_self, fm_congr fun y hy => h y (List.mem_cons_of_mem _ hy)]
theorem range_get {α : Type} : ∀ l : List α, (List.range l.length).filterMap (fun m => l[m]?) = l := by
  intro l
  induction hn : l.length generalizing l with
  | zero => rw [List.length_eq_zero_iff.mp hn]; rfl
  | succ n ih =>
    rcases List.eq_nil_or_concat l with rfl | ⟨r, x, hx⟩
    · cases hn
    · rw [List.concat_eq_append] at hx
      subst hx
      have hr : r.length = n := by simp at hn; exact hn
      rw [List.range_succ, List.filterMap_append]
      have e1 : (List.range n).filterMap (fun m => (r ++ [x])[m]?) = (List.range n).filterMap (fun m => r[m]?) := by
        refine fm_congr fun m hm => ?_
        rw [List.getElem?_append_left (by have := List.mem_range.mp hm; omega)]
      rw [e1, ih r hr]
      simp [← hr]
theorem rev_pick (xs : Array Value) : ((List.range xs.size).filterMap fun (m : Nat) => xs[(((xs.size : Int) - 1) + (m : Int) * (-1)).toNat]?) = xs.toList.reverse := by
  have := range_get xs.toList.reverse
  rw [List.length_reverse, Array.length_toList] at this
  refine Eq.trans (fm_congr fun m hm => ?_) this
  have hm := List.mem_range.mp hm
  rw [List.getElem?_reverse (by rw [Array.length_toList]; exact hm), Array.getElem?_toList, Array.length_toList]
  congr 1
  omega
theorem applied_rev {sl : Addr} {vs : Value} {n : Nat} {Q : Int × Int × Nat → Shared → Prop} (hs : s.heap.IsSliceOf sl .none .none vs) (ps : IsPart vs (some (-1)))
    (h : Q ((n : Int) - 1, -1, n) s) : wpAny (model prog w) A (Builtin.Slice.sliceApplied (.ref sl) (pure (n : Int))) Q E s := by
  obtain ⟨os, hos, _, hds⟩ := id hs
  unfold Builtin.Slice.sliceApplied Builtin.Slice.sliceFields
  refine wpAny_bind (wpAny_bind (wpAny_field hos hds (x := .none) rfl (wpAny_bind (wpAny_field hos hds (x := .none) rfl (wpAny_bind (wpAny_field hos hds (x := vs) rfl (wpAny_pure ?_)))))))
  refine wpAny_bind (HT.slicePart_ ps ?_)
  show wpAny _ _ (if ((-1 : Int) == 0) = true then _ else _) _ _ s
  rw [if_neg (by decide)]
  refine wpAny_bind (slicePart_none (wpAny_bind (slicePart_none (wpAny_bind (wpAny_pure ?_)))))
  have e2 : Builtin.Slice.slicePlaces ((n : Int) - 1) (-1) (-1) = n := by
    unfold Builtin.Slice.slicePlaces
    rw [if_neg (by decide)]
    have e3 : -(-1 : Int) = 1 := rfl
    rw [e3, Int.ediv_one]
    split <;> omega
  show wpAny _ _ (pure ((n : Int) - 1, (-1 : Int), Builtin.Slice.slicePlaces ((n : Int) - 1) (-1) (-1))) _ _ s
  rw [e2]
  exact wpAny_pure h
theorem tup_rev {t sl : Addr} {items : Array Value} {vs : Value} {Q : Value → Shared → Prop} (ht : IsTup s.heap t items) (hs : s.heap.IsSliceOf sl .none .none vs) (ps : IsPart vs (some (-1)))
    (h : Q (.ref s.heap.objs.size) { s with heap := s.heap.push { cls := .type "tuple", data := .seq items.toList.reverse.toArray } }) (hsz : items.size ≤ sizeLine) : wpAny (model prog w) A (getItem (.ref t) (.ref sl)) Q E s := by
  have hok : sizeOk (.seq items.toList.reverse.toArray) := by
    show items.toList.reverse.toArray.size ≤ sizeLine
    rw [List.size_toArray, List.length_reverse, Array.length_toList]
    exact hsz
  obtain ⟨os, hos, hcs, hds⟩ := id hs
  have hTs : s.TypeIs (.ref sl) "slice" := ⟨os, hos, hcs⟩
  unfold getItem
  try with_reducible refine wpAny_holding ?_
  first | refine wpAny_bind (wpAny_pure ?_) | skip
  refine wpAny_bind (wpAny_sequenceKey ht.typeIs (by decide) ?_)
  refine wpAny_bind (wpAny_callSpecial?_slot (name := Str.ofString "__getitem__") ht.typeIs PyProof.Rows.slot_tuple_getitem (wpAny_call_entry PyProof.Rows.slot_tuple_getitem ht.typeIs PyProof.Rows.entry_tuple_getitem ?_ (PyProof.Rows.args_tuple_getitem _ _)))
  show wpAny _ _ (Builtin.Tuple.tupleItemsOf (.ref t) >>= _) _ _ s
  refine wpAny_bind (tupleItemsOf_ ht ?_)
  refine wpAny_bind (wpAny_typeOf hTs ?_)
  rw [if_pos (by decide)]
  refine wpAny_bind (applied_rev (n := items.size) hs ps ?_)
  have hno : ¬ ((((items.size : Int) - 1) == 0 && (-1 : Int) == 1 && items.size == items.size) = true) := by simp
  show wpAny _ _ (if ((((items.size : Int) - 1) == 0 && (-1 : Int) == 1 && items.size == items.size) = true) then _ else _) _ _ s
  rw [if_neg hno, rev_pick]
  first
    | exact wpAny_bind (m := Builtin.Tuple.tupleExact _) (wpAny_newObj_type (wpAny_pure ⟨_, rfl, wpAny_pure h⟩) hok)
    | exact wpAny_bind (m := Builtin.Tuple.tupleExact _) (wpAny_newObj_type (wpAny_bind (wpAny_pure (wpAny_pure ⟨_, rfl, wpAny_pure h⟩))) hok)
    | exact wpAny_bind (wpAny_bind (m := Builtin.Tuple.tupleExact _) (wpAny_newObj_type (wpAny_pure (wpAny_pure ⟨_, rfl, wpAny_pure h⟩)) hok))
    | exact wpAny_bind (wpAny_bind (m := Builtin.Tuple.tupleExact _) (wpAny_newObj_type (wpAny_pure ⟨_, rfl, wpAny_pure h⟩) hok))
end
end PyI
end

section
set_option maxRecDepth 100000
set_option maxHeartbeats 4000000
namespace PyI
open PySem PySem.Spec PyProof.Rows L2
def tRvs (K : PySem.W.Frag) (te : TE) : TE := fun σ H Q => te σ H fun x H1 => (∃ z, x = .str z ∧ z.length ≤ sizeLine ∧ Q (.str (Txt.sliceBy z none none (-1, 0))) H1) ∨
  (∃ a xs, x = .ref a ∧ SqL K H1 a xs ∧ ∀ p, H1 p = none → Q (.ref p) (upd H1 p (.lst xs.reverse))) ∨
  ∃ a xs, x = .ref a ∧ SqT K H1 a xs ∧ ∀ p its, H1 p = none → Q (.ref p) (upd H1 p (.frz (tupObj its) (.tup xs.reverse)))
theorem pe_rvs {X : Cx} {e : PySem.Expr} {te : TE} {k : Nat} {p1 p2 p3 pos : Pos} (he : PE X e te) : PE X (.Subscript e (.Slice none none (some (.UnaryOp .USub (.Constant (.int 1) k p1) p2)) p3) pos) (tRvs X.K te) := by
  refine ⟨fun pins s σ H Q I h => ?_⟩
  refine Subscript_ (thn (he.run pins s σ H _ I h) fun v s1 ⟨x, H1, I1, r1, q1⟩ => ?_)
  have hst : PO X (some (.UnaryOp .USub (.Constant (.int 1) k p1) p2)) (tPart (tUn (rU fun i => .int (-i)) (tC (.int 1)))) := po_some (pe_un un_neg pe_int)
  refine wpAny_Slice (thn (po_none.run pins s1 σ H1 (fun o H2 => o = none ∧ H2 = H1) I1 ⟨rfl, rfl⟩) fun vl s2 ⟨l, H2, I2, pl, el, e2⟩ => ?_)
  subst el e2
  refine thn (po_none.run pins s2 σ H2 (fun o H3 => o = none ∧ H3 = H2) I2 ⟨rfl, rfl⟩) fun vu s3 ⟨u, H3, I3, pu, eu, e3⟩ => ?_
  subst eu e3
  refine thn (hst.run pins s3 σ H3 (fun o H4 => o = some (-1) ∧ H4 = H3) I3 ⟨1, rfl, -1, rfl, rfl, rfl⟩) fun vs s4 ⟨o, H4, I4, ps, eo, e4⟩ => ?_
  subst eo e4
  have I5 : Inv X pins σ H4 { s4 with heap := s4.heap.push { cls := .type "slice", data := .fields #[vl, vu, vs] } } := I4.kept (t' := s4.toks) fun b ob q => Heap.get?_push_of_some _ q
  rcases q1 with ⟨z, ex, hz, q⟩ | ⟨a, xs, ex, hx, q⟩ | ⟨a, xs, ex, hx, q⟩
  · subst ex
    obtain ⟨t, rfl⟩ := r1
    obtain ⟨os, hos, hcs, hds⟩ : Heap.IsSliceOf _ _ vl vu vs := Heap.IsSliceOf.new s4.heap vl vu vs
    obtain ⟨l, rfl, hl⟩ := IsPart.raw pl
    obtain ⟨u, rfl, hu⟩ := IsPart.raw pu
    obtain ⟨w, rfl, hw⟩ := IsPart.raw ps
    have el : l = none := by cases l <;> first | rfl | cases hl
    have eu : u = none := by cases u <;> first | rfl | cases hu
    subst el eu
    obtain ⟨tk, rfl⟩ : ∃ tk, w = some (-1, tk) := by
      cases w with
      | none => cases hw
      | some w => obtain ⟨i, tk⟩ := w; cases hw; exact ⟨tk, rfl⟩
    have ew : Txt.sliceBy z none none (-1, tk) = Txt.sliceBy z none none (-1, 0) := by
      have e1 := step_rev_list z tk
      have e2 := step_rev_list z 0
      have : (Txt.sliceBy z none none (-1, tk)).cps.toList = (Txt.sliceBy z none none (-1, 0)).cps.toList := e1.trans e2.symm
      have e3 : (Txt.sliceBy z none none (-1, tk)).cps = (Txt.sliceBy z none none (-1, 0)).cps := Array.toList_inj.mp this
      have gen : ∀ p q : Str, p.cps = q.cps → p = q := fun p q h => by cases p; cases q; exact congrArg _ h
      exact gen _ _ e3
    refine tail_any (T := "str") (ops := [.ref s4.heap.objs.size, .str z t]) (typeIs_str _ _ _) PySem.F.slot_str_getitem.lookup ?_ (by with_unfolding_all rfl)
    refine wpAny_getItem_str_slice (l := none) (u := none) (st := some (-1, tk)) ⟨os, hos, hcs, hds⟩ rfl
      (post_val_or_str ⟨Nat.le_trans (Txt.sliceBy_le z none none (-1, tk) (show (-1 : Int) ≠ 0 by decide)) hz, fun t' c => ?_⟩)
    refine ⟨.str _, H4, I5.tok _, ⟨_, rfl⟩, ?_⟩
    rw [← ew] at q
    exact q
  · subst ex
    cases r1
    obtain ⟨its, r, ht, hz⟩ := I5.list hx
    have hlen := r.length
    show wpAny (model X.prog X.w) X.A (subscriptTail e (.Slice none none (some (.UnaryOp .USub (.Constant (.int 1) k p1) p2)) p3) (.ref a) (.ref s4.heap.objs.size)) (EP X pins σ Q) X.xe { s4 with heap := s4.heap.push { cls := .type "slice", data := .fields #[vl, vu, vs] } }
    refine tail_any (ops := [.ref a, .ref s4.heap.objs.size]) ht.isList.typeIs (PySem.slot_list_getitem.lookup) ?_ (by with_unfolding_all rfl)
    refine wpAny_getItem_list_slice ht.isList (Heap.IsSliceOf.new _ vl vu vs) pl pu ps (by decide) ?_ (by rw [List.size_toArray]; omega)
    rw [PySem.W.krv_pick]
    refine ⟨.ref _, _, I5.laid (t' := s4.toks) (o := .lst xs.reverse) (fun b ob q => Heap.get?_push_of_some _ q) (Nat.le_refl _) ?_, rfl, q _ (I5.hok.fresh (Nat.le_refl _))⟩
    exact ⟨by rw [List.length_reverse]; exact hz, _, 0, r.reverse, Heap.get?_push_size _ rfl⟩
  · subst ex
    cases r1
    obtain ⟨its, r, ht, hz⟩ := I5.tuple hx
    have hlen := r.length
    cases pl
    cases pu
    show wpAny (model X.prog X.w) X.A (subscriptTail e (.Slice none none (some (.UnaryOp .USub (.Constant (.int 1) k p1) p2)) p3) (.ref a) (.ref s4.heap.objs.size)) (EP X pins σ Q) X.xe _
    refine tail_any (ops := [.ref a, .ref s4.heap.objs.size]) ht.typeIs PyProof.Rows.slot_tuple_getitem.lookup ?_ (by with_unfolding_all rfl)
    refine tup_rev ht (Heap.IsSliceOf.new _ _ _ _) ps ?_ (by rw [List.size_toArray]; omega)
    exact ⟨.ref _, _, Inv.newTup I5 r.reverse (by rw [List.length_reverse]; exact hz) s4.toks, rfl, q _ _ I5.fresh⟩
theorem RepL.rvs {K : PySem.W.Frag} {G : Hp} : ∀ {xs : List V} {ds : List D}, RepL K G xs ds → RepL K G xs.reverse ds.reverse
  | _, _, .nil => .nil
  | _, _, .cons a b => by
    rw [List.reverse_cons, List.reverse_cons]
    exact (RepL.rvs b).append (.cons a .nil)
section
variable {X : Cx} {cls : List Cl} {a : PySem.Expr} {ea : EvD}
def evRvs (ea : EvD) : EvD := fun env => match ea env with
  | some x => revSem x
  | none => none
theorem s_rvs {k : Nat} {p1 p2 p3 pos : Pos} (ha : PE X a (tG X.K cls (PR X.K) ea)) : PE X (.Subscript a (.Slice none none (some (.UnaryOp .USub (.Constant (.int 1) k p1) p2)) p3) pos) (tG X.K cls (PX X.K true) (evRvs ea)) := by
  refine PE.imp (pe_rvs ha) fun σ H Q ⟨Γ, L, G, env, d, E, hv, q⟩ => ?_
  unfold evRvs at hv
  split at hv
  · rename_i x hx
    refine ⟨Γ, L, G, env, x, E, hx, fun v G1 H1 s1 r1 => ?_⟩
    cases x with
    | str z =>
      obtain ⟨c, e⟩ := ifs (show (if z.length ≤ BIG then some (D.str (Txt.sliceBy z none none (-1, 0))) else none) = some d from hv)
      subst e
      cases (show v = _ from r1)
      exact .inl ⟨z, rfl, Nat.le_trans c BIG_line, q _ G1 H1 s1 (Rep.str _ : Rep X.K G1 _ _)⟩
    | lst xs =>
      cases hv
      obtain ⟨a, ys, rfl, h, rr⟩ := r1
      exact .inr (.inl ⟨a, ys, rfl, h, fun p hp => new_lst s1.fz rr.rvs (fun v G' H' s r => q v G' H' (s1.trans s) (ResF.back s1.hh r)) hp⟩)
    | tup xs =>
      cases hv
      cases id r1 with
      | @tup a ys _ h rr => exact .inr (.inr ⟨a, ys, rfl, s1.fz.sqT h.sq, fun p its hp => new_tup s1.fz rr.rvs (fun v G' H' s r => q v G' H' (s1.trans s) r) its hp⟩)
    | _ => cases hv
  · cases hv
end
end PyI
end

section
set_option maxRecDepth 100000
set_option maxHeartbeats 4000000
namespace PyI
open PySem PySem.Spec PyProof.Rows L2
structure StepX (A L : List Addr) (G H G' H' : Hp) : Prop where
  hh : ∀ b o, b ∉ A → H b = some o → H' b = some o
  hn : ∀ b, H b ≠ none → H' b ≠ none
  gg : Ex G G'
  fr : ∀ b, G' b ≠ none → G b ≠ none ∨ H b = none
  fz : Fz L G' H'
theorem StepX.nil {L : List Addr} {G H G' H' : Hp} (s : StepX [] L G H G' H') : Step L G H G' H' := ⟨fun b o e => s.hh b o (by simp) e, s.gg, s.fr, s.fz⟩
section
variable (K : PySem.W.Frag)
structure ArgsOk (G H : Hp) (fd : FDef) (vs : List V) (ds : List D) (ia : List (Nat × Addr)) : Prop where
  len : vs.length = fd.ps.length
  len' : ds.length = fd.ps.length
  at_ : ∀ i v d, vs[i]? = some v → ds[i]? = some d → match clA fd.cls i with
    | .F => Rep K G v d
    | .B => RepT K G H v d ∧ ∀ p ∈ ia, v ≠ .ref p.2
    | .O => ∃ a, (i, a) ∈ ia ∧ v = .ref a ∧ G a = none ∧ Own K G H a d
  ios : ia.map (·.1) = fd.io
  apart : (ia.map (·.2)).Nodup
def OutsOk (G' H' : Hp) (ia : List (Nat × Addr)) (outs : List D) : Prop := ia.length = outs.length ∧ ∀ (j : Nat) p d, ia[j]? = some p → outs[j]? = some d → G' p.2 = none ∧ Own K G' H' p.2 d
def spF (cf : CF) (f : Nat) (fd : FDef) : Sp := fun vs H Q _ => ∃ L G ds ia d outs, Fz L G H ∧ ArgsOk K G H fd vs ds ia ∧ cf f ds = some (d, outs) ∧
  ∀ v G' H', StepX (ia.map (·.2)) L G H G' H' → PostB K fd.fresh G' H H' v d → OutsOk K G' H' ia outs → Q v H'
end
def dflTo (fd : FDef) (n : Nat) : List D := fd.dfl.drop (fd.dfl.length - (fd.ps.length - n))
theorem noO_at {cs : List Cl} (h : noO cs = true) (i : Nat) : clA cs i ≠ .O := by
  unfold clA
  intro e
  cases q : cs[i]? with
  | none => simp [List.getD, q] at e
  | some c =>
    simp [List.getD, q] at e
    subst e
    have := List.all_eq_true.mp h _ (List.mem_of_getElem? q)
    simp at this
def posL (cs : List Cl) : List Bool := cs.map fun c => match c with | .F => true | _ => false
theorem RepPs.get {K : PySem.W.Frag} {G H : Hp} {ps : List Bool} {vs : List V} {ds : List D} (h : RepPs K G H ps vs ds) : ∀ {i : Nat} {v : V} {d : D}, vs[i]? = some v → ds[i]? = some d → (ps[i]? = some true ∧ Rep K G v d) ∨ (ps[i]? = some false ∧ RepT K G H v d) := by
  induction h with
  | nil => intro i v d e; simp at e
  | consV r _ ih =>
    intro i v d e1 e2
    cases i with
    | zero => simp at e1 e2; subst e1; subst e2; exact .inl ⟨by simp, r⟩
    | succ i => simpa using ih (by simpa using e1) (by simpa using e2)
  | consR r _ ih =>
    intro i v d e1 e2
    cases i with
    | zero => simp at e1 e2; subst e1; subst e2; exact .inr ⟨by simp, r⟩
    | succ i => simpa using ih (by simpa using e1) (by simpa using e2)
/-- what is known of a def that may be called -/
structure FnS (X : Cx) (cf : CF) (f : Nat) (fd : FDef) : Prop where
  ex : ∃ (k : Nat) (a : Addr) (fdt : FuncData), Room k X.A ∧ X.mg fd.name = some (.ref a) ∧ PySem.W.keepIn X.K (.ref a) = true ∧ FnOk X.prog X.w X.K X.mg X.base CX0 k a fdt fd.ps (spF X.K cf f fd) ∧
    ∀ n, n ≤ fd.ps.length → fd.ps.length ≤ n + fd.dfl.length → ∃ ds dvs, Binds X.K fdt fd.ps ds ∧ Vals dvs ds ∧ RepL X.K (fun _ => none) dvs (dflTo fd n)
  dfl : ∀ ds : List D, ds.length ≤ fd.ps.length → fd.ps.length ≤ ds.length + fd.dfl.length → cf f ds = cf f (ds ++ dflTo fd ds.length)
theorem getElem_app {α : Type} {xs ys : List α} {i : Nat} {v : α} (h : (xs ++ ys)[i]? = some v) : xs[i]? = some v ∨ (xs.length ≤ i ∧ ys[i - xs.length]? = some v) := by
  by_cases q : i < xs.length
  · rw [List.getElem?_append_left q] at h; exact .inl h
  · rw [List.getElem?_append_right (by omega)] at h; exact .inr ⟨by omega, h⟩
theorem argsOk_plain {K : PySem.W.Frag} {L : List Addr} {G H : Hp} {fd : FDef} {vs dvs : List V} {ds : List D} (fz : Fz L G H) (hl : fd.cls.length = fd.ps.length) (hio : fd.io = []) (hno : noO fd.cls = true) (hn : ds.length ≤ fd.ps.length) (hm : fd.ps.length ≤ ds.length + fd.dfl.length)
    (r : RepPs K G H (posL fd.cls) vs ds) (rd : RepL K (fun _ => none) dvs (dflTo fd ds.length)) : ArgsOk K G H fd (vs ++ dvs) (ds ++ dflTo fd ds.length) [] where
  len := by rw [List.length_append, r.length, rd.length]; unfold dflTo; rw [List.length_drop]; omega
  len' := by rw [List.length_append]; unfold dflTo; rw [List.length_drop]; omega
  at_ := fun i v d e1 e2 => by
    have hlen := r.length
    have key : (clA fd.cls i = .F → Rep K G v d) ∧ RepT K G H v d := by
      rcases getElem_app e1 with h1 | ⟨q1, h1⟩
      · have hi : i < ds.length := by rw [← hlen]; exact (List.getElem?_eq_some_iff.mp h1).1
        have h2 : ds[i]? = some d := by rw [List.getElem?_append_left hi] at e2; exact e2
        rcases r.get h1 h2 with ⟨p, q⟩ | ⟨p, q⟩
        · exact ⟨fun _ => q, q.toT fz⟩
        · refine ⟨fun hc => ?_, q⟩
          unfold posL at p
          rw [List.getElem?_map] at p
          cases hc' : fd.cls[i]? with
          | none => rw [hc'] at p; cases p
          | some c =>
            rw [hc'] at p
            unfold clA at hc
            simp [List.getD, hc'] at hc
            subst hc
            simp at p
      · have h2 : (dflTo fd ds.length)[i - vs.length]? = some d := by
          rw [List.getElem?_append_right (by omega)] at e2
          rw [hlen]; exact e2
        obtain ⟨w, h3, h4⟩ := rd.get h2
        rw [h1] at h3
        cases h3
        have := Rep.mono (G' := G) (fun _ _ e => by cases e) h4
        exact ⟨fun _ => this, this.toT fz⟩
    cases hc : clA fd.cls i with
    | F => exact key.1 hc
    | B => exact ⟨key.2, fun p hp => by cases hp⟩
    | O => exact absurd hc (noO_at hno i)
  ios := by simp [hio]
  apart := by simp
section
variable {X : Cx} {cls : List Cl} {e a b c : PySem.Expr} {ea eb ec : EvD} {pos p : Pos} {x : Str} {cf : CF}
def evCall (cf : CF) (f : Nat) (es : PyI.Env → Option (List D)) : EvD := fun env => match es env with
  | some ds => (match cf f ds with
    | some (d, _) => some d
    | none => none)
  | none => none
theorem call_inv {f : Nat} {es : PyI.Env → Option (List D)} {env : PyI.Env} {d : D} (h : evCall cf f es env = some d) : ∃ ds outs, es env = some ds ∧ cf f ds = some (d, outs) := by
  unfold evCall at h
  split at h
  · rename_i ds hds
    split at h
    · rename_i d' o hc
      cases h
      exact ⟨ds, o, hds, hc⟩
    · cases h
  · cases h
/-- a call of a def: what its promise asks, by data -/
theorem use_call {f : Nat} {fd : FDef} (n : Nat) {dvs : List V} (dfl : ∀ ds : List D, ds.length ≤ fd.ps.length → fd.ps.length ≤ ds.length + fd.dfl.length → cf f ds = cf f (ds ++ dflTo fd ds.length))
    (hl : fd.cls.length = fd.ps.length) (hio : fd.io = []) (hno : noO fd.cls = true) (hn : n ≤ fd.ps.length) (hm : fd.ps.length ≤ n + fd.dfl.length) (rd : RepL X.K (fun _ => none) dvs (dflTo fd n))
    {L : List Addr} {G H G1 H1 : Hp} {ds : List D} {d : D} {outs : List D} {vs : List V} {Q : VK} {E0 : XK} (hds : ds.length = n) (hc : cf f ds = some (d, outs)) (s1 : Step L G H G1 H1) (r : RepPs X.K G1 H1 (posL fd.cls) vs ds)
    (k : ∀ v G' H', Step L G H G' H' → PostB X.K fd.fresh G' H H' v d → Q v H') : spF X.K cf f fd (vs ++ dvs) H1 Q E0 := by
  subst hds
  refine ⟨L, G1, ds ++ dflTo fd ds.length, [], d, outs, s1.fz, argsOk_plain s1.fz hl hio hno hn hm r rd, by rw [← dfl ds hn hm]; exact hc, fun v G' H' s r _ => ?_⟩
  have s' : Step L G1 H1 G' H' := StepX.nil s
  exact k v G' H' (s1.trans s') (r.back s1.hh)
theorem s_call {f : Nat} {fd : FDef} {es : List PySem.Expr} {ees : PyI.Env → Option (List D)} (F : FnS X cf f fd) (hg : Gl X x) (hx : fd.name = x) (hl : fd.cls.length = fd.ps.length) (hio : fd.io = []) (hno : noO fd.cls = true) (hn : es.length ≤ fd.ps.length) (hm : fd.ps.length ≤ es.length + fd.dfl.length)
    (ha : PA X es (tAs X.K cls (posL fd.cls) ees)) (hlen : ∀ env ds, ees env = some ds → ds.length = es.length) (hdb : (x == ("__debug__" : Str)) = false) (hs : ∀ y ∈ es, notStar y = true) :
    PE X (.Call (.Name x p) es [] pos) (tG X.K cls (PX X.K fd.fresh) (evCall cf f ees)) := by
  obtain ⟨k, adr, fdt, hr, hmg, hkp, ok, hb⟩ := F.ex
  obtain ⟨dls, dvs, b, vd, rd⟩ := hb es.length hn hm
  subst hx
  cases es with
  | nil =>
    refine PE.imp (pe_call0 ok hr hg hmg hkp b vd pass0 hdb) fun σ H Q ⟨Γ, L, G, env, d, E, hv, q⟩ => ?_
    obtain ⟨ds, outs, h1, h2⟩ := call_inv hv
    have hd := hlen env ds h1
    have : ds = [] := List.eq_nil_of_length_eq_zero hd
    subst this
    exact use_call 0 F.dfl hl hio hno hn hm rd rfl h2 (Step.refl E.fz) .nil q (E0 := fun _ _ _ => False)
  | cons e es =>
    have hs1 : starEach (e :: es) X.env = (false, eval e X.env) :: starEach es X.env := by
      have := hs e List.mem_cons_self
      cases e <;> first | rfl | cases this
    have hpl : (backTo pos (starEach es X.env)).any (·.1) = false := by
      have : ∀ es : List PySem.Expr, (∀ y ∈ es, notStar y = true) → (backTo pos (starEach es X.env)).any (·.1) = false := by
        intro es
        induction es with
        | nil => intro _; rfl
        | cons y ys ih =>
          intro h
          have hy := h y List.mem_cons_self
          have e1 : starEach (y :: ys) X.env = (false, eval y X.env) :: starEach ys X.env := by cases y <;> first | rfl | cases hy
          rw [e1]
          show (false || (backTo pos (starEach ys X.env)).any (·.1)) = false
          rw [ih fun z hz => h z (List.mem_cons_of_mem _ hz)]
          rfl
      exact this es fun y hy => hs y (List.mem_cons_of_mem _ hy)
    refine PE.imp (pe_call ok hr hg hmg hkp b vd pass0 ha hdb hs1 hpl) fun σ H Q ⟨Γ, L, G, env, d, E, hv, q⟩ => ?_
    obtain ⟨ds, outs, h1, h2⟩ := call_inv hv
    exact ⟨Γ, L, G, env, ds, E, h1, fun vs G1 H1 s1 r1 => use_call (e :: es).length F.dfl hl hio hno hn hm rd (hlen env ds h1) h2 s1 r1 q⟩
/-! d.get -/
theorem isD_of {K : PySem.W.Frag} {G H : Hp} {v : V} {kvs : List (Key × D)} (r : RepT K G H v (.dic kvs)) : ∃ a, v = .ref a ∧ IsD H a := by
  obtain ⟨a, ks, rfl, h, _⟩ := r
  exact ⟨a, rfl, .inl ⟨ks, h⟩⟩
theorem m1_ok {apos : Pos} {m : Str} (hab : abB a = true) (hn : notStar b = true) (hline : (apos.endLine == pos.line) = true) : M1 X a m apos b pos := by
  have hs : starEach [b] X.env = [(false, eval b X.env)] := by cases b <;> first | rfl | cases hn
  exact ⟨abB_ok hab, by rw [hs]; rfl, hline, by rw [hs]; rfl⟩
theorem m2_ok {apos : Pos} {m : Str} (hab : abB a = true) (hn : notStar b = true) (hn' : notStar c = true) (hline : (apos.endLine == pos.line) = true) : M2 X a m apos b c pos := by
  have hs' : starEach [c] X.env = [(false, eval c X.env)] := by cases c <;> first | rfl | cases hn'
  have hs : starEach [b, c] X.env = [(false, eval b X.env), (false, eval c X.env)] := by
    have h1 : starEach [b, c] X.env = (false, eval b X.env) :: starEach [c] X.env := by cases b <;> first | rfl | cases hn
    rw [h1, hs']
  exact ⟨abB_ok hab, by rw [hs]; rfl, hline, by rw [hs]; rfl⟩
def evGet2 (ed ek ex : EvD) : EvD := fun env => match ed env with
  | some (.dic kvs) => (match ek env with
    | some k => (match ex env with
      | some z => (match keyOf k with
        | some k => some ((dget kvs k).getD z)
        | none => none)
      | none => none)
    | none => none)
  | _ => none
theorem get2_inv {env : PyI.Env} {d : D} (h : evGet2 ea eb ec env = some d) : ∃ kvs k z key, ea env = some (.dic kvs) ∧ eb env = some k ∧ ec env = some z ∧ keyOf k = some key ∧ d = (dget kvs key).getD z := by
  unfold evGet2 at h
  split at h
  · rename_i kvs h1
    split at h
    · rename_i k h2
      split at h
      · rename_i z h3
        split at h
        · rename_i key h4
          cases h
          exact ⟨kvs, k, z, key, h1, h2, h3, h4, rfl⟩
        · cases h
      · cases h
    · cases h
  · cases h
theorem s_get2 {apos : Pos} (hu : X.A.units + 1 < cLine) (ha : PE X a (tG X.K cls (PR X.K) ea)) (hb : PE X b (tG X.K cls (PR X.K) eb)) (hc : PE X c (tG X.K cls (PV X.K) ec)) (hab : abB a = true) (hn : notStar b = true) (hn' : notStar c = true) (hline : (apos.endLine == pos.line) = true) :
    PE X (.Call (.Attribute a "get" apos) [b, c] [] pos) (tG X.K cls (PV X.K) (evGet2 ea eb ec)) := by
  refine PE.imp (pe_dget2 hu ha hb hc (m2_ok hab hn hn' hline)) fun σ H Q ⟨Γ, L, G, env, d, E, hl, q⟩ => ?_
  obtain ⟨kvs, k, z, key, h1, h2, h3, h4, rfl⟩ := get2_inv hl
  refine ⟨Γ, L, G, env, _, E, h1, fun v G1 H1 s1 r1 => ?_⟩
  obtain ⟨a', rfl, isd⟩ := isD_of r1
  refine ⟨a', rfl, isd, Γ, L, G1, env, _, E.step s1, h2, fun w G2 H2 s2 r2 => ⟨Γ, L, G2, env, _, E.step (s1.trans s2), h3, fun u G3 H3 s3 r3 => ?_⟩⟩
  obtain ⟨a2, o, e2, g, hsome, get⟩ := dgetT (k := key) (RepT.step (s2.trans s3) r1)
  cases e2
  cases keyT r2 h4
  refine ⟨o, g, ?_⟩
  cases hd : dget kvs key with
  | none =>
    have : o = none := by
      cases o with
      | none => rfl
      | some _ => simp [hd] at hsome
    subst this
    exact q u G3 H3 (s1.trans (s2.trans s3)) (by rw [hd]; exact r3)
  | some y =>
    obtain ⟨w', rfl, rw'⟩ := get y hd
    exact q w' G3 H3 (s1.trans (s2.trans s3)) (by rw [hd]; exact rw')
theorem s_get1 {apos : Pos} (hu : X.A.units + 1 < cLine) (ha : PE X a (tG X.K cls (PR X.K) ea)) (hb : PE X b (tG X.K cls (PR X.K) eb)) (hab : abB a = true) (hn : notStar b = true) (hline : (apos.endLine == pos.line) = true) :
    PE X (.Call (.Attribute a "get" apos) [b] [] pos) (tG X.K cls (PV X.K) (ev2 .get1 ea eb)) := by
  refine PE.imp (pe_dget1 hu ha hb (m1_ok hab hn hline)) fun σ H Q ⟨Γ, L, G, env, d, E, hl, q⟩ => ?_
  obtain ⟨x, y, h1, h2, hs⟩ := ev2_inv hl
  cases x with
  | dic kvs =>
    obtain ⟨key, h4, rfl⟩ := map_some (show (keyOf y).map (fun k => (dget kvs k).getD .non) = some d from hs)
    refine ⟨Γ, L, G, env, _, E, h1, fun v G1 H1 s1 r1 => ?_⟩
    obtain ⟨a', rfl, isd⟩ := isD_of r1
    refine ⟨a', rfl, isd, Γ, L, G1, env, _, E.step s1, h2, fun w G2 H2 s2 r2 => ?_⟩
    obtain ⟨a2, o, e2, g, hsome, get⟩ := dgetT (k := key) (RepT.step s2 r1)
    cases e2
    cases keyT r2 h4
    refine ⟨o, g, ?_⟩
    cases hd : dget kvs key with
    | none =>
      have : o = none := by
        cases o with
        | none => rfl
        | some _ => simp [hd] at hsome
      subst this
      exact q _ G2 H2 (s1.trans s2) (by rw [hd]; exact Rep.non)
    | some y =>
      obtain ⟨w', rfl, rw'⟩ := get y hd
      exact q w' G2 H2 (s1.trans s2) (by rw [hd]; exact rw')
  | _ => cases hs
end
end PyI
end

section
set_option maxRecDepth 100000
set_option maxHeartbeats 4000000
namespace PyI
open PySem PySem.Spec PyProof.Rows L2
open Sem (wp)
abbrev tIter (t : Addr) : Obj := { cls := .type "tuple_iterator", data := .fields #[.ref t, .int 0 0] }
abbrev eObj (n : Addr) : Obj := { cls := .type "enumerate", data := .fields #[.none, .bool false, .ref n, rawInt 0, .none, .none] }
theorem enumT_made (t : Addr) (its : Array Value) : Meets (Builtin.«enumerate.__new__» ⟨[.type "enumerate", .ref t], []⟩) (fun _ R s => s.heap.IsTuple t its ∧
    R (.ok (.ret (.ref (s.heap.push (tIter t)).objs.size))) { s with heap := (s.heap.push (tIter t)).push (eObj s.heap.objs.size) }) :=
  .of_wp fun prog w A R s hh => by
    obtain ⟨hq, gg, dd, kk, oo⟩ := s
    obtain ⟨hT, hR⟩ := hh
    have hsub := sub_enumerate
    have st : ∀ {A2 : Around} {E Q : Value → Shared → Prop}, Q (.ref hq.objs.size) ⟨hq.push (tIter t), gg, dd, kk, oo⟩ → wpAny (model prog w) A2 (pyIter (.ref t)) Q E ⟨hq, gg, dd, kk, oo⟩ := fun z => (begins_tuple t its).iter prog w _ _ ⟨hq, gg, dd, kk, oo⟩ _ hT z
    wp_walk using st
    refine wpAny_stack_any fun _ => wpAny_pure ?_
    split
    · rename_i c _ _ _ _ _
      cases (c == Value.type "enumerate") <;> (wp_walk using st; exact ⟨_, rfl, hR⟩)
    · wp_walk using st; exact ⟨_, rfl, hR⟩
theorem enumT_call {prog : Program} {w : World} {A : Around} {E : Value → Shared → Prop} {s : Shared} {t : Addr} {its : Array Value} {Q : Value → Shared → Prop} (hT : s.heap.IsTuple t its)
    (k : ∀ h2, IsEnum h2 (s.heap.objs.size + 1) s.heap.objs.size 0 .none → h2.IsTupleIter s.heap.objs.size t 0 → h2.objs.size = s.heap.objs.size + 2 → (∀ b o, s.heap.get? b = some o → h2.get? b = some o) → Q (.ref (s.heap.objs.size + 1)) { s with heap := h2 }) :
    wpAny (model prog w) A (call (.type "enumerate") [.ref t]) Q E s := by
  refine callType_new F.called_enumerate (by decide) (F.typeCall_enumerate_1 _) (F.newCall_enumerate_1 _) (fun obj => F.args_object_init_2 obj _) F.entry_enumerate_new (enumT_made t its) ⟨hT, ?_⟩
  have hz : (s.heap.push (tIter t)).objs.size = s.heap.objs.size + 1 := Heap.size_push ..
  show _ ∧ _
  rw [hz]
  have he : IsEnum ((s.heap.push (tIter t)).push (eObj s.heap.objs.size)) (s.heap.objs.size + 1) s.heap.objs.size 0 .none := by
    have z := Heap.get?_push_size (s.heap.push (tIter t)) (o := eObj s.heap.objs.size) rfl
    rw [hz] at z
    exact z
  exact ⟨⟨_, he, rfl⟩, k _ he ⟨_, Heap.get?_push_of_some _ (Heap.get?_push_size _ rfl), rfl, rfl⟩ (by rw [Heap.size_push, hz]) fun b o z => Heap.get?_push_of_some _ (Heap.get?_push_of_some _ z)⟩
/-- the tuple at a as it stands at each turn, each item in a new pair -/
def IteT (K : PySem.W.Frag) (a : Addr) : It :=
  ⟨fun i H => ∃ (xs : List V) (x : V), SqT K H a xs ∧ xs[i]? = some x, fun i H v H2 => ∃ T x, v = .ref T ∧ H T = none ∧ H2 = upd H T (.tup [.int (i : Nat), x]) ∧ ∀ xs, SqT K H a xs → xs[i]? = some x, fun i H => ∃ xs : List V, SqT K H a xs ∧ xs.length = i⟩
theorem enumT_turn {P : Program} {w : World} {K : PySem.W.Frag} {elts : List PySem.Expr} {kk : Nat} {tpos : Pos} (a e it : Addr) (hai : a ≠ it) (hae : a ≠ e) :
    Turn P w K (.Tuple elts kk tpos) (IteT K a) [e, it] e (fun i h => (∃ old, IsEnum h e it ((i : Nat) : Int) old) ∧ h.IsTupleIter it a i ∧ e ≠ it) where
  mem := by simp
  obj := fun i h st b hb => by
    obtain ⟨⟨old, he⟩, ⟨o, ho, _, hd⟩, _⟩ := st
    rcases (show b = e ∨ b = it by simpa using hb) with rfl | rfl
    · exact ⟨_, he, fun v q => nomatch q⟩
    · exact ⟨o, ho, fun v q => by rw [hd] at q; cases q⟩
  keep := fun i h h' st k => let ⟨⟨old, he⟩, hi, hne⟩ := st; ⟨⟨old, k e (by simp) _ he⟩, hi.at fun o q => k it (by simp) o q, hne⟩
  item := by
    intro X hP hw hK hc i pins s σ H E I hf st hg
    subst hP hw hK
    obtain ⟨⟨old, he⟩, hit, hne⟩ := st
    obtain ⟨xs, x, hq, hx⟩ := hg
    obtain ⟨its, rv, p, _⟩ := I.tuple hq
    obtain ⟨u0, hu, ru⟩ := rv.get hx
    have li : i < its.toArray.size := by
      have h1 := rv.length
      have h2 : i < xs.length := by
        rcases Nat.lt_or_ge i xs.length with z | z
        · exact z
        · rw [List.getElem?_eq_none z] at hx; cases hx
      simp; omega
    have hel : e < s.heap.objs.size := Heap.lt_size he
    have hil : it < s.heap.objs.size := by obtain ⟨_, q, _⟩ := hit; exact Heap.lt_size q
    refine wpAny_pyNext_enum_itemD (Draws.tuple (prog := X.prog) (w := X.w) (A := X.A.in1) (by have z := I.ok.hd hc; exact z) it a hai its.toArray) he ⟨hit, p⟩ li hne (by simp [hne, Ne.symm hae]) fun u h' tk hP ho hst hT hsz hk => ?_
    have eu : u = u0 := by
      have h1 : its.toArray[i]? = some u := hP
      have h2 : its.toArray[i]? = some u0 := by simpa using hu
      rw [h1] at h2; cases h2; rfl
    subst eu
    refine ⟨_, rfl, wpAny_letOwnedTupleGo_enum (s := { s with heap := h', toks := tk + 1 }) ho fun h2 he' sb => ?_⟩
    have hT2 : h2.get? s.heap.objs.size = some { cls := .type "tuple", data := .seq #[.int i tk, u] } := (sb.2 _ (Nat.ne_of_gt hel)).trans hT
    have new : ObjOk X.prog X.w (upd H s.heap.objs.size (.tup [.int (i : Nat), x])) h2 s.heap.objs.size (.tup [.int (i : Nat), x]) := ⟨by show 2 ≤ sizeLine; decide, [.int i tk, u], .cons ⟨_, rfl⟩ (.cons ru .nil), ⟨_, hT2, rfl, _, rfl⟩⟩
    have I1 : Inv X pins σ (upd H s.heap.objs.size (.tup [.int (i : Nat), x])) { s with heap := h2, toks := tk + 1 } := I.turnedNew (ch := [e, it]) (fun b ob hb q => (sb.2 b (fun z => hb (by simp [z]))).trans (hk b ob (fun z => hb (by simp [z])) (fun z => hb (by simp [z])) q)) hf (Nat.le_refl _) new
    refine ⟨.ref s.heap.objs.size, _, I1, rfl, ⟨_, x, rfl, I.hok.fresh (Nat.le_refl _), rfl, fun ys hy => by rw [I.tuple_inj hy hq]; exact hx⟩, ⟨⟨u, ?_⟩, hst.1.at fun o q => (sb.2 it (Ne.symm hne)).trans q, hne⟩, fun b hb => ?_⟩
    · rw [show ((i + 1 : Nat) : Int) = (i : Int) + 1 by omega]; exact he'
    · have hb2 : b < s.heap.objs.size := by
        rcases (show b = e ∨ b = it by simpa using hb) with rfl | rfl
        · exact hel
        · exact hil
      rw [upd_ne (Nat.ne_of_lt hb2)]
      exact (hf b hb).1
  done := by
    intro X hP hw hK hc i pins s σ H E I hf st hg
    subst hP hw hK
    obtain ⟨⟨old, he⟩, hit, hne⟩ := st
    obtain ⟨xs, hq, hx⟩ := hg
    obtain ⟨its, rv, p, _⟩ := I.tuple hq
    have li : its.toArray.size = i := by have := rv.length; simp; omega
    obtain ⟨f0, f1, f2, f3, f4, f5⟩ := hf it (by simp)
    subst li
    exact wpAny_pyNext_enum_endD (Draws.tuple (prog := X.prog) (w := X.w) (A := X.A.in1) (by have z := I.ok.hd hc; exact z) it a hai its.toArray) he ⟨hit, p⟩ fun h' eb => ⟨rfl, I.turned (t' := s.toks) (fun b o hb q => eb b o hb q) f0 f1 f3 f4 f5⟩
  self := fun A i s Q E st h => let ⟨⟨_, he⟩, _⟩ := st; wpAny_pyIter_enum he h
def iEnumT (K : PySem.W.Frag) (ta : TA) : TI := fun σ H R => ta σ H fun vs H1 => ∃ a xs, vs = [.ref a] ∧ SqT K H1 a xs ∧ R (IteT K a) H1
theorem pi_enumT {X : Cx} {e : PySem.Expr} {ta : TA} {p pos tpos : Pos} {elts : List PySem.Expr} {kk : Nat} (hg : Gl X "enumerate") (hm : X.mg "enumerate" = none) (ha : PA X [e] ta) (hs : starEach [e] X.env = [(false, eval e X.env)]) :
    PI X (.Tuple elts kk tpos) (.Call (.Name "enumerate" p) [e] [] pos) (iEnumT X.K ta) := by
  refine ⟨fun pins s σ H R I h => Call_ (ld_blt I hg hm boot_enumerate (PyProof.Rows.callWith_type1 (thn (ha.run pos pins s σ H _ I h) fun us s1 ⟨vs, H1, I1, r1, q1⟩ => ?_) hs rfl))⟩
  obtain ⟨a, xs, ex, hq, q⟩ := q1
  subst ex
  cases r1 with
  | cons r rr =>
    cases rr
    cases r
    obtain ⟨its, rv, p', _⟩ := I1.tuple hq
    have hal : a < s1.heap.objs.size := by obtain ⟨_, z, _⟩ := p'; exact Heap.lt_size z
    refine enumT_call p' fun h2 he hit hsz hk => wpAny_pyIter_enum he ?_
    refine ⟨s1.heap.objs.size + 1, [s1.heap.objs.size + 1, s1.heap.objs.size], _, _, H1, rfl, I1.kept (t' := s1.toks) hk, enumT_turn a (s1.heap.objs.size + 1) s1.heap.objs.size (Nat.ne_of_lt hal) (Nat.ne_of_lt (Nat.lt_succ_of_lt hal)), ⟨⟨.none, he⟩, hit, Nat.succ_ne_self _⟩, fun b hb => ?_, q⟩
    have hle : s1.heap.objs.size ≤ b := by
      rcases (show b = s1.heap.objs.size + 1 ∨ b = s1.heap.objs.size by simpa using hb) with rfl | rfl <;> omega
    exact I1.fpOk hle (I1.hok.fresh hle)
theorem walk_enumT {K : PySem.W.Frag} {a : Addr} {xs : List V} : Walk (IteT K a) xs.length (fun H => SqT K H a xs) (YPair (fun i => some (.int (i : Nat))) (fun i => xs[i]?)) :=
  ⟨fun i _ hi q => ⟨xs, xs[i], q, by simp [hi]⟩, fun _ q => ⟨xs, q, rfl⟩, fun i H v H2 _ q y => by obtain ⟨T, x, h1, h2, h3, h4⟩ := y; exact ⟨T, .int (i : Nat), x, h1, h2, h3, rfl, h4 xs q⟩⟩
end PyI
end

section
set_option maxRecDepth 100000
set_option maxHeartbeats 4000000
namespace PyI
open PySem PySem.Spec PyProof.Rows L2
open Sem (wp)
/-- the list at a and the tuple at b as they stand at each turn, the items in new pairs -/
def ItzM (K : PySem.W.Frag) (a b : Addr) : It :=
  ⟨fun i H => ∃ (xs ys : List V) (x y : V), SqL K H a xs ∧ SqT K H b ys ∧ xs[i]? = some x ∧ ys[i]? = some y,
    fun i H v H2 => ∃ T x y, v = .ref T ∧ H T = none ∧ H2 = upd H T (.tup [x, y]) ∧ (∀ xs, SqL K H a xs → xs[i]? = some x) ∧ ∀ ys, SqT K H b ys → ys[i]? = some y,
    fun i H => ∃ xs ys : List V, SqL K H a xs ∧ SqT K H b ys ∧ i ≤ xs.length ∧ i ≤ ys.length ∧ (i = xs.length ∨ i = ys.length)⟩
theorem get_lt {α : Type} {xs : List α} {i : Nat} {x : α} (h : xs[i]? = some x) : i < xs.length := by
  rcases Nat.lt_or_ge i xs.length with z | z
  · exact z
  · rw [List.getElem?_eq_none z] at h; cases h
theorem zipM_turn {P : Program} {w : World} {K : PySem.W.Frag} {elts : List PySem.Expr} {kk : Nat} {tpos : Pos} {a b z TI TO i1 i2 : Addr} (D : ZipSep2 z TI TO i1 i2 [i1, a] [i2, b]) (hai : a ≠ i1) (hbi : b ≠ i2) :
    Turn P w K (.Tuple elts kk tpos) (ItzM K a b) [z, TI, TO, i1, i2] z (fun i h => IsZip h z TI TO .none ∧ IsTupOf2 h TI (.ref i1) (.ref i2) ∧ (∃ x y, IsTupOf2 h TO x y) ∧ h.IsListIter i1 a i ∧ h.IsTupleIter i2 b i) where
  mem := by simp
  obj := fun i h st c hc => by
    obtain ⟨hz, hTI, ⟨x, y, hTO⟩, ⟨o1, e1, _, d1⟩, ⟨o2, e2, _, d2⟩⟩ := st
    rcases (show c = z ∨ c = TI ∨ c = TO ∨ c = i1 ∨ c = i2 by simpa using hc) with q | q | q | q | q
    · rw [q]; exact ⟨_, hz, fun v q => nomatch q⟩
    · rw [q]; exact ⟨_, hTI, fun v q => nomatch q⟩
    · rw [q]; exact ⟨_, hTO, fun v q => nomatch q⟩
    · rw [q]; exact ⟨o1, e1, fun v q => by rw [d1] at q; cases q⟩
    · rw [q]; exact ⟨o2, e2, fun v q => by rw [d2] at q; cases q⟩
  keep := fun i h h2 st k => by
    obtain ⟨hz, hTI, ⟨x, y, hTO⟩, h3, h4⟩ := st
    exact ⟨k z (by simp) _ hz, k TI (by simp) _ hTI, ⟨x, y, k TO (by simp) _ hTO⟩, h3.at fun o q => k i1 (by simp) o q, h4.at fun o q => k i2 (by simp) o q⟩
  item := by
    intro X hP hw hK hc i pins s σ H E I hf st hg
    subst hP hw hK
    obtain ⟨hz, hTI, ⟨x0, y0, hTO⟩, h1, h2⟩ := st
    obtain ⟨xs, ys, x, y, hqx, hqy, hx, hy⟩ := hg
    obtain ⟨its, rv, p, _⟩ := I.list hqx
    obtain ⟨jts, rw_, p2, _⟩ := I.tuple hqy
    obtain ⟨u0, hu, ru⟩ := rv.get hx
    obtain ⟨w0, hv, rw2⟩ := rw_.get hy
    have hh : X.A.in1.handled = none := by have q := I.ok.hd hc; exact q
    have D1 := Draws.list (prog := X.prog) (w := X.w) (A := X.A.in1) hh i1 a hai its.toArray
    have D2 := Draws.tuple (prog := X.prog) (w := X.w) (A := X.A.in1) hh i2 b hbi jts.toArray
    have l1 : i < its.toArray.size := by have := get_lt hx; have := rv.length; simp; omega
    have l2 : i < jts.toArray.size := by have := get_lt hy; have := rw_.length; simp; omega
    have hzl : z < s.heap.objs.size := Heap.lt_size hz
    refine wpAny_pyNext_zipD2_item D D1 D2 hz hTI hTO ⟨h1, p.isList⟩ ⟨h2, p2⟩ l1 l2 fun u v h' tk hP1 hP2 z' TO' s1 s2 hT hsz hk => ?_
    have eu : u = u0 := by
      have q1 : its.toArray[i]? = some u := hP1
      have q2 : its.toArray[i]? = some u0 := by simpa using hu
      rw [q1] at q2; cases q2; rfl
    have ev : v = w0 := by
      have q1 : jts.toArray[i]? = some v := hP2
      have q2 : jts.toArray[i]? = some w0 := by simpa using hv
      rw [q1] at q2; cases q2; rfl
    subst eu ev
    refine ⟨_, rfl, wpAny_letOwnedTupleGo_zip (s := { s with heap := h', toks := tk }) z' fun h2' z2 sb => ?_⟩
    have hT2 : h2'.get? s.heap.objs.size = some { cls := .type "tuple", data := .seq #[u, v] } := (sb.2 _ (Nat.ne_of_gt hzl)).trans hT
    have new : ObjOk X.prog X.w (upd H s.heap.objs.size (.tup [x, y])) h2' s.heap.objs.size (.tup [x, y]) := ⟨by show 2 ≤ sizeLine; decide, [u, v], .cons ru (.cons rw2 .nil), ⟨_, hT2, rfl, _, rfl⟩⟩
    have I1 : Inv X pins σ (upd H s.heap.objs.size (.tup [x, y])) { s with heap := h2', toks := tk } :=
      I.turnedNew (t' := tk) (ch := [z, TI, TO, i1, i2]) (fun c o hb q => (sb.2 c (fun e => hb (by simp [e]))).trans (hk c o (fun e => hb (by simp [e])) (fun e => hb (by simp [e])) (fun e => hb (by simp [e])) (fun e => hb (by simp [e])) q)) hf (Nat.le_refl _) new
    refine ⟨.ref s.heap.objs.size, _, I1, rfl, ⟨_, x, y, rfl, I.hok.fresh (Nat.le_refl _), rfl, fun l hl => by rw [I.list_inj hl hqx]; exact hx, fun l hl => by rw [I.tuple_inj hl hqy]; exact hy⟩, ⟨z2, ?_, ⟨u, v, ?_⟩, ?_, ?_⟩, fun c hcm => ?_⟩
    · exact (sb.2 _ D.TIz).trans (hk _ _ D.TIz D.TITO D.TIi1 D.TIi2 hTI)
    · exact (sb.2 _ D.TOz).trans TO'
    · exact s1.1.at fun o q => (sb.2 _ (Ne.symm D.zi1)).trans q
    · exact s2.1.at fun o q => (sb.2 _ (Ne.symm D.zi2)).trans q
    · have hlt : c < s.heap.objs.size := by
        rcases (show c = z ∨ c = TI ∨ c = TO ∨ c = i1 ∨ c = i2 by simpa using hcm) with q | q | q | q | q
        · rw [q]; exact hzl
        · rw [q]; exact Heap.lt_size hTI
        · rw [q]; exact Heap.lt_size hTO
        · rw [q]; obtain ⟨_, e1, _⟩ := h1; exact Heap.lt_size e1
        · rw [q]; obtain ⟨_, e2, _⟩ := h2; exact Heap.lt_size e2
      rw [upd_ne (Nat.ne_of_lt hlt)]
      exact (hf c hcm).1
  done := by
    intro X hP hw hK hc i pins s σ H E I hf st hg
    subst hP hw hK
    obtain ⟨hz, hTI, ⟨x0, y0, hTO⟩, h1, h2⟩ := st
    obtain ⟨xs, ys, hqx, hqy, le1, le2, hend⟩ := hg
    obtain ⟨its, rv, p, _⟩ := I.list hqx
    obtain ⟨jts, rw_, p2, _⟩ := I.tuple hqy
    have hh : X.A.in1.handled = none := by have q := I.ok.hd hc; exact q
    have D1 := Draws.list (prog := X.prog) (w := X.w) (A := X.A.in1) hh i1 a hai its.toArray
    have D2 := Draws.tuple (prog := X.prog) (w := X.w) (A := X.A.in1) hh i2 b hbi jts.toArray
    have e1 : its.toArray.size = xs.length := by have := rv.length; simp; omega
    have e2 : jts.toArray.size = ys.length := by have := rw_.length; simp; omega
    exact wpAny_pyNext_zipD2_end D D1 D2 hz hTI hTO ⟨h1, p.isList⟩ ⟨h2, p2⟩ (by omega) (by omega) (by omega) fun h' tk hk => ⟨rfl, I.turnedL (t' := tk) (ch := [z, TI, TO, i1, i2]) (fun c o hb q =>
      hk c o (fun e => hb (by simp [e])) (fun e => hb (by simp [e])) (fun e => hb (by simp [e])) (fun e => hb (by simp [e])) q) hf⟩
  self := fun A i s Q E st h => wpAny_pyIter_zip st.1 h
def iZipM (K : PySem.W.Frag) (ta : TA) : TI := fun σ H R => ta σ H fun vs H1 => ∃ a b xs ys, vs = [.ref a, .ref b] ∧ SqL K H1 a xs ∧ SqT K H1 b ys ∧ R (ItzM K a b) H1
theorem pi_zipM {X : Cx} {e e2 : PySem.Expr} {ta : TA} {p pos tpos : Pos} {elts : List PySem.Expr} {kk : Nat} (hg : Gl X "zip") (hm : X.mg "zip" = none) (ha : PA X [e, e2] ta)
    (hs : starEach [e, e2] X.env = (false, eval e X.env) :: starEach [e2] X.env) (hpl : (backTo pos (starEach [e2] X.env)).any (·.1) = false) : PI X (.Tuple elts kk tpos) (.Call (.Name "zip" p) [e, e2] [] pos) (iZipM X.K ta) := by
  refine ⟨fun pins s σ H R I h => Call_ (ld_blt I hg hm PyProof.Rows.boot_zip (PyProof.Rows.callWith_type1 (thn (ha.run pos pins s σ H _ I h) fun us s1 ⟨vs, H1, I1, r1, q1⟩ => ?_) hs hpl))⟩
  obtain ⟨a, b, xs, ys, ex, hqx, hqy, q⟩ := q1
  subst ex
  cases r1 with
  | cons r rr =>
    cases rr with
    | cons r' rr =>
      cases rr
      cases r
      cases r'
      obtain ⟨its, rv, p1, _⟩ := I1.list hqx
      obtain ⟨jts, rw_, p2, _⟩ := I1.tuple hqy
      have la : a < s1.heap.objs.size := by obtain ⟨_, z, _⟩ := p1.isList; exact Heap.lt_size z
      have lb : b < s1.heap.objs.size := by obtain ⟨_, z, _⟩ := p2; exact Heap.lt_size z
      have ne : ∀ {x k : Nat}, x < s1.heap.objs.size → x ≠ s1.heap.objs.size + k := fun h => Nat.ne_of_lt (Nat.lt_of_lt_of_le h (Nat.le_add_right _ _))
      have ad : ∀ {j k : Nat}, j ≠ k → s1.heap.objs.size + j ≠ s1.heap.objs.size + k := fun h e => h (Nat.add_left_cancel e)
      have ad0 : ∀ {k : Nat}, 0 < k → s1.heap.objs.size + k ≠ s1.heap.objs.size := fun h e => by omega
      refine zip_begins2 (begins_list a its.toArray) (begins_tuple b jts.toArray) p1.isList p2 fun h2 hz hTI hTO g1 g2 hsz hk => wpAny_pyIter_zip hz ?_
      have D : ZipSep2 (s1.heap.objs.size + 4) (s1.heap.objs.size + 2) (s1.heap.objs.size + 3) s1.heap.objs.size (s1.heap.objs.size + 1) [s1.heap.objs.size, a] [s1.heap.objs.size + 1, b] :=
        ⟨ad (by decide), ad (by decide), ad (by decide), ad0 (by decide), by simp, by simp [Ne.symm (ne (k := 4) la)], by simp [Ne.symm (ne (k := 3) la)], ad (by decide), by simp, by simp [Ne.symm (ne (k := 4) lb)], by simp [Ne.symm (ne (k := 3) lb)], by simp [Nat.ne_of_gt lb], by simp [Ne.symm (ne (k := 1) la)]⟩
      refine ⟨s1.heap.objs.size + 4, [s1.heap.objs.size + 4, s1.heap.objs.size + 2, s1.heap.objs.size + 3, s1.heap.objs.size, s1.heap.objs.size + 1], _, _, H1, rfl, I1.kept (t' := s1.toks) hk, zipM_turn D (Nat.ne_of_lt la) (ne (k := 1) lb), ⟨hz, hTI, ⟨_, _, hTO⟩, ⟨_, g1, rfl, rfl⟩, ⟨_, g2, rfl, rfl⟩⟩, fun c hcm => ?_, q⟩
      have hle : s1.heap.objs.size ≤ c := by
        rcases (show c = s1.heap.objs.size + 4 ∨ c = s1.heap.objs.size + 2 ∨ c = s1.heap.objs.size + 3 ∨ c = s1.heap.objs.size ∨ c = s1.heap.objs.size + 1 by simpa using hcm) with q | q | q | q | q <;> (rw [q]; omega)
      exact I1.fpOk hle (I1.hok.fresh hle)
theorem walk_zipM {K : PySem.W.Frag} {a b : Addr} {xs ys : List V} {n : Nat} (hn : n = min xs.length ys.length) : Walk (ItzM K a b) n (fun H => SqL K H a xs ∧ SqT K H b ys) (YPair (fun i => xs[i]?) (fun i => ys[i]?)) := by
  subst hn
  refine ⟨fun i _ hi q => ?_, fun _ q => ⟨xs, ys, q.1, q.2, by omega, by omega, by omega⟩, fun i H v H2 _ q y => ?_⟩
  · have h1 : i < xs.length := by omega
    have h2 : i < ys.length := by omega
    exact ⟨xs, ys, xs[i], ys[i], q.1, q.2, by simp [h1], by simp [h2]⟩
  · obtain ⟨T, x, z, h1, h2, h3, h4, h5⟩ := y
    exact ⟨T, x, z, h1, h2, h3, h4 xs q.1, h5 ys q.2⟩
end PyI
end

section
set_option maxRecDepth 100000
set_option maxHeartbeats 4000000
namespace PyI
open PySem PySem.Spec PyProof.Rows L2
def Stab (m : Bool) (Γ : Gh) (L : List Addr) (G1 H1 G H : Hp) : Prop := match m with
  | true => Step (L ++ Γ.L0) G1 H1 G H
  | false => Ex G1 G ∧ Fz (L ++ Γ.L0) G H ∧ (∀ b o, Γ.H0 b = some o → (∀ p ∈ Γ.io, p.2 ≠ b) → At L H b o) ∧ (∀ p ∈ Γ.lk, H p.1 = some p.2)
section
variable {K : PySem.W.Frag} {Γ : Gh} {L : List Addr} {cls : List Cl} {G H G' H' G1 H1 G2 H2 : Hp} {env : PyI.Env} {σ : L2.St} {v : V} {d : D} {m : Bool}
theorem EnvRel.stab (E : EnvRel K Γ L cls G env σ H) : Stab m Γ L G H G H := by
  cases m with
  | true => exact Step.refl E.fz
  | false => exact ⟨Ex.refl G, E.fz, E.kp, fun p hp => (E.lks p hp).1⟩
theorem EnvRel.stab' (E : EnvRel K Γ L cls G env σ H) (e : Ex G1 G) : Stab false Γ L G1 H1 G H := ⟨e, E.fz, E.kp, fun p hp => (E.lks p hp).1⟩
theorem Stab.ex (s : Stab m Γ L G1 H1 G H) : Ex G1 G := by
  cases m with
  | true => exact s.gg
  | false => exact s.1
theorem Stab.trans (a : Step (L ++ Γ.L0) G1 H1 G2 H2) (s : Stab m Γ L G2 H2 G H) : Stab m Γ L G1 H1 G H := by
  cases m with
  | true => exact a.trans s
  | false => exact ⟨a.gg.trans s.1, s.2⟩
theorem Stab.fz (s : Stab m Γ L G1 H1 G H) : Fz (L ++ Γ.L0) G H := by
  cases m with
  | true => exact Step.fz s
  | false => exact s.2.1
/-- a source that stands while the walk lasts -/
def SrcOk (K : PySem.W.Frag) (St : Hp → Hp → Prop) (G1 : Hp) (v : V) : D → Prop
  | .lst ds => ∃ a xs, v = .ref a ∧ RepL K G1 xs ds ∧ ∀ G H, St G H → SqL K H a xs
  | .tup ds => ∃ a xs, v = .ref a ∧ RepL K G1 xs ds ∧ ∀ G H, St G H → SqT K H a xs
  | .str s => v = .str s
  | .int s => v = .int s
  | _ => True
theorem SrcOk.step {d : D} (s : Step (L ++ Γ.L0) G1 H1 G2 H2) (h : SrcOk K (Stab m Γ L G1 H1) G1 v d) : SrcOk K (Stab m Γ L G2 H2) G2 v d := by
  cases d with
  | lst ds => obtain ⟨a, xs, e, r, k⟩ := h; exact ⟨a, xs, e, r.mono s.gg, fun G H q => k G H (Stab.trans s q)⟩
  | tup ds => obtain ⟨a, xs, e, r, k⟩ := h; exact ⟨a, xs, e, r.mono s.gg, fun G H q => k G H (Stab.trans s q)⟩
  | _ => exact h
theorem SrcOk.ofT (f : Fz (L ++ Γ.L0) G1 H1) (r : RepT K G1 H1 v d) : SrcOk K (Stab true Γ L G1 H1) G1 v d := by
  cases d with
  | lst ds => obtain ⟨a, xs, e, h, rr⟩ := r; exact ⟨a, xs, e, rr, fun G H q => ex_l (Step.hh q) h⟩
  | tup ds =>
    cases id r with
    | @tup a ys _ h rr => exact ⟨a, ys, rfl, rr, fun G H q => ex_t (Step.hh q) (f.sqT h.sq)⟩
  | str s => exact r
  | int s => exact r
  | _ => trivial
theorem SrcOk.ofV (r : Rep K G1 v d) : SrcOk K (Stab m Γ L G1 H1) G1 v d := by
  cases d with
  | lst ds =>
    cases r with
    | @lst a xs _ h rr => exact ⟨a, xs, rfl, rr, fun G H q => q.fz.sqL (ex_l q.ex h)⟩
  | tup ds =>
    cases r with
    | @tup a ys _ h rr => exact ⟨a, ys, rfl, rr, fun G H q => q.fz.sqT (ex_t q.ex h.sq)⟩
  | str s => cases r; rfl
  | int s => cases r; rfl
  | _ => trivial
theorem SrcOk.ofB (r : SlotOk K Γ G1 H1 .B v d) : SrcOk K (Stab false Γ L G1 H1) G1 v d := by
  rcases r with r | ⟨a, rfl, hn, h⟩
  · exact SrcOk.ofV r
  · cases d with
    | lst ds =>
      obtain ⟨xs, h, rr⟩ := h
      refine ⟨a, xs, rfl, rr, fun G H q => ?_⟩
      rcases h with h | h
      · exact .inl (At.rdu (L := L) (o := .lst xs) h fun o e => q.2.2.1 a o e hn)
      · exact .inr h
    | dic ds => trivial
    | _ => exact h.elim
end
def tSrc (K : PySem.W.Frag) (m : Bool) (cls : List Cl) (ev : EvD) : TE := fun σ H Q => ∃ Γ L G env d, EnvRel K Γ L cls G env σ H ∧ ev env = some d ∧ ∀ v G' H', Step (L ++ Γ.L0) G H G' H' → SrcOk K (Stab m Γ L G' H') G' v d → Q v H'
/-- what comes at one turn -/
def YD (K : PySem.W.Frag) (pr : Bool) (G1 H : Hp) (x : V) (H' : Hp) (d : D) : Prop := (H' = H ∧ Rep K G1 x d) ∨ ∃ T u w du dw, pr = true ∧ x = .ref T ∧ H T = none ∧ H' = upd H T (.tup [u, w]) ∧ d = .tup [du, dw] ∧ Rep K G1 u du ∧ Rep K G1 w dw
def WalkD (K : PySem.W.Frag) (pr : Bool) (St : Hp → Hp → Prop) (G1 : Hp) (J : It) (ds : List D) : Prop := ∃ Y, Walk J ds.length (fun H => ∃ G, St G H) Y ∧ ∀ i G H x H', i < ds.length → St G H → Y i H x H' → ∃ d, ds[i]? = some d ∧ YD K pr G1 H x H' d
def tIt (K : PySem.W.Frag) (pr m : Bool) (cls : List Cl) (ev : PyI.Env → Option (List D)) : TI := fun σ H R => ∃ Γ L G env ds, EnvRel K Γ L cls G env σ H ∧ ev env = some ds ∧ ∀ J G' H', Step (L ++ Γ.L0) G H G' H' → WalkD K pr (Stab m Γ L G' H') G' J ds → R J H'
section
variable {X : Cx} {cls : List Cl} {e a b c tg : PySem.Expr} {ea eb ec : EvD} {pos p : Pos} {m : Bool}
theorem PI.imp {wi wi' : TI} (h : PI X tg e wi) (f : ∀ σ H R, wi' σ H R → wi σ H R) : PI X tg e wi' := ⟨fun pins s σ H R I q => h.run pins s σ H R I (f σ H R q)⟩
theorem PI.or {wi wi' : TI} (h : PI X tg e wi) (h' : PI X tg e wi') : PI X tg e (fun σ H R => wi σ H R ∨ wi' σ H R) := ⟨fun pins s σ H R I q => q.elim (h.run pins s σ H R I) (h'.run pins s σ H R I)⟩
theorem src_T (h : PE X e (tG X.K cls (PR X.K) ea)) : PE X e (tSrc X.K true cls ea) :=
  PE.imp h fun σ H Q ⟨Γ, L, G, env, d, E, hl, k⟩ => ⟨Γ, L, G, env, d, E, hl, fun v G' H' s r => k v G' H' s (SrcOk.ofT s.fz r)⟩
theorem src_V (h : PE X e (tG X.K cls (PV X.K) ea)) : PE X e (tSrc X.K m cls ea) :=
  PE.imp h fun σ H Q ⟨Γ, L, G, env, d, E, hl, k⟩ => ⟨Γ, L, G, env, d, E, hl, fun v G' H' s r => k v G' H' s (SrcOk.ofV r)⟩
theorem src_B {i : Nat} {x : Str} (hN : X.N[i]? = some x) (hv : Vis X.env.scope x) (h1 : (x == ("__debug__" : Str)) = false) (h2 : (x == ("__classdict__" : Str)) = false) (hc : clA cls i ≠ .O) : PE X (.Name x pos) (tSrc X.K false cls fun env => look env i) :=
  PE.imp (pe_var hN hv h1 h2) fun σ H Q ⟨Γ, L, G, env, d, E, hl, k⟩ => by
    obtain ⟨v, e1, e2⟩ := E.look hl
    refine ⟨v, e1, k v G H (Step.refl E.fz) ?_⟩
    cases q : clA cls i with
    | F => rw [q] at e2; exact SrcOk.ofV e2
    | B => rw [q] at e2; exact SrcOk.ofB e2
    | O => exact absurd q hc
def evIt1 (io : ItOp) (ea : EvD) : PyI.Env → Option (List D) := fun env => match ea env with
  | some x => iterD io [x]
  | none => none
def evIt2 (io : ItOp) (ea eb : EvD) : PyI.Env → Option (List D) := fun env => match ea env with
  | some x => (match eb env with
    | some y => iterD io [x, y]
    | none => none)
  | none => none
def evIt3 (io : ItOp) (ea eb ec : EvD) : PyI.Env → Option (List D) := fun env => match ea env with
  | some x => (match eb env with
    | some y => (match ec env with
      | some z => iterD io [x, y, z]
      | none => none)
    | none => none)
  | none => none
theorem it1_inv {io : ItOp} {env : PyI.Env} {ds : List D} (h : evIt1 io ea env = some ds) : ∃ x, ea env = some x ∧ iterD io [x] = some ds := by
  unfold evIt1 at h
  split at h
  · exact ⟨_, by assumption, h⟩
  · cases h
theorem it2_inv {io : ItOp} {env : PyI.Env} {ds : List D} (h : evIt2 io ea eb env = some ds) : ∃ x y, ea env = some x ∧ eb env = some y ∧ iterD io [x, y] = some ds := by
  unfold evIt2 at h
  split at h
  · split at h
    · exact ⟨_, _, by assumption, by assumption, h⟩
    · cases h
  · cases h
theorem it3_inv {io : ItOp} {env : PyI.Env} {ds : List D} (h : evIt3 io ea eb ec env = some ds) : ∃ x y z, ea env = some x ∧ eb env = some y ∧ ec env = some z ∧ iterD io [x, y, z] = some ds := by
  unfold evIt3 at h
  split at h
  · split at h
    · split at h
      · exact ⟨_, _, _, by assumption, by assumption, by assumption, h⟩
      · cases h
    · cases h
  · cases h
theorem i_of (h : PE X e (tSrc X.K m cls ea)) : PI X tg e (tIt X.K false m cls (evIt1 .of ea)) := by
  refine PI.imp (PI.or (pi_list h) (PI.or (pi_tup h) (pi_str h))) fun σ H R ⟨Γ, L, G, env, ds, E, hv, k⟩ => ?_
  obtain ⟨x, hx, hi⟩ := it1_inv hv
  cases x with
  | lst xs =>
    cases hi
    refine .inl ⟨Γ, L, G, env, _, E, hx, fun v G' H' s src => ?_⟩
    obtain ⟨a, ys, rfl, rr, st⟩ := src
    refine ⟨a, rfl, ⟨ys, st G' H' (E.step s).stab⟩, k _ G' H' s ⟨YAt ys, ?_, ?_⟩⟩
    · rw [← rr.length]
      exact walk_list.mono (fun H ⟨G, q⟩ => st G H q) fun i H x H' _ _ y => y
    · intro i G2 H2 x H3 hi' q y
      obtain ⟨e1, e2⟩ := y
      obtain ⟨d, h1, h2⟩ := rr.getV e2
      exact ⟨d, h1, .inl ⟨e1, h2⟩⟩
  | tup xs =>
    cases hi
    refine .inr (.inl ⟨Γ, L, G, env, _, E, hx, fun v G' H' s src => ?_⟩)
    obtain ⟨a, ys, rfl, rr, st⟩ := src
    refine ⟨a, rfl, ⟨ys, st G' H' (E.step s).stab⟩, k _ G' H' s ⟨YAt ys, ?_, ?_⟩⟩
    · rw [← rr.length]
      exact walk_tup.mono (fun H ⟨G, q⟩ => st G H q) fun i H x H' _ _ y => y
    · intro i G2 H2 x H3 hi' q y
      obtain ⟨e1, e2⟩ := y
      obtain ⟨d, h1, h2⟩ := rr.getV e2
      exact ⟨d, h1, .inl ⟨e1, h2⟩⟩
  | str z =>
    cases hi
    refine .inr (.inr ⟨Γ, L, G, env, _, E, hx, fun v G' H' s src => ?_⟩)
    refine ⟨z, src, k _ G' H' s ⟨fun i H v H' => H' = H ∧ ∃ c, z.cps[i]? = some c ∧ v = .str ⟨#[c]⟩, ?_, ?_⟩⟩
    · have e : (chars z).length = z.cps.size := by simp [chars]
      rw [e]
      exact walk_str.mono (fun _ _ => trivial) fun i H x H' _ _ y => y
    · intro i G2 H2 x H3 hi' q y
      obtain ⟨e1, c, e2, rfl⟩ := y
      refine ⟨.str ⟨#[c]⟩, by simp [chars, e2], .inl ⟨e1, .str _⟩⟩
  | _ => cases hi
theorem walk_revT {K : PySem.W.Frag} {a : Addr} {xs : List V} : Walk (RT.ItvT K a xs.length) xs.length (fun H => SqT K H a xs) (fun i H x H' => H' = H ∧ xs[xs.length - 1 - i]? = some x) where
  goes := fun i H hi q => ⟨hi, xs, xs[xs.length - 1 - i]'(by omega), q, by simp [show xs.length - 1 - i < xs.length by omega]⟩
  stops := fun _ _ => Nat.le_refl _
  yields := fun i H v H' hi q y => ⟨y.1, y.2 xs q⟩
theorem i_rev (hg : Gl X "reversed") (hm : X.mg "reversed" = none) (h : PE X e (tSrc X.K m cls ea)) (hn : notStar e = true) : PI X tg (.Call (.Name "reversed" p) [e] [] pos) (tIt X.K false m cls (evIt1 .rev ea)) := by
  have hs : starEach [e] X.env = [(false, eval e X.env)] := by cases e <;> first | rfl | cases hn
  refine PI.imp (RT.pi_revA hg hm h hs) fun σ H R ⟨Γ, L, G, env, ds, E, hv, k⟩ => ?_
  obtain ⟨x, hx, hi⟩ := it1_inv hv
  cases x with
  | tup xs =>
    cases hi
    refine ⟨Γ, L, G, env, _, E, hx, fun v G' H' s src => ?_⟩
    obtain ⟨a, ys, rfl, rr, st⟩ := src
    refine ⟨a, ys, rfl, .inr ⟨st G' H' (E.step s).stab, k _ G' H' s ⟨fun i H x H' => H' = H ∧ ys[ys.length - 1 - i]? = some x, ?_, ?_⟩⟩⟩
    · rw [List.length_reverse, ← rr.length]
      exact walk_revT.mono (fun H ⟨G, q⟩ => st G H q) fun i H x H' _ _ y => y
    · intro i G2 H2 x H3 hi' q y
      obtain ⟨e1, e2⟩ := y
      rw [List.length_reverse] at hi'
      obtain ⟨d, h1, h2⟩ := rr.getV e2
      refine ⟨d, ?_, .inl ⟨e1, h2⟩⟩
      rw [List.getElem?_reverse hi', ← h1, rr.length]
  | lst xs =>
    cases hi
    refine ⟨Γ, L, G, env, _, E, hx, fun v G' H' s src => ?_⟩
    obtain ⟨a, ys, rfl, rr, st⟩ := src
    refine ⟨a, ys, rfl, .inl ⟨st G' H' (E.step s).stab, k _ G' H' s ⟨fun i H x H' => H' = H ∧ ys[ys.length - 1 - i]? = some x, ?_, ?_⟩⟩⟩
    · rw [List.length_reverse, ← rr.length]
      exact walk_rev.mono (fun H ⟨G, q⟩ => st G H q) fun i H x H' _ _ y => y
    · intro i G2 H2 x H3 hi' q y
      obtain ⟨e1, e2⟩ := y
      rw [List.length_reverse] at hi'
      obtain ⟨d, h1, h2⟩ := rr.getV e2
      refine ⟨d, ?_, .inl ⟨e1, h2⟩⟩
      rw [List.getElem?_reverse hi', ← h1, rr.length]
  | _ => cases hi
theorem i_range1 (hg : Gl X "range") (hm : X.mg "range" = none) (ha : PE X a (tG X.K cls (PR X.K) ea)) (hn : notStar a = true) : PI X tg (.Call (.Name "range" p) [a] [] pos) (tIt X.K false m cls (evIt1 .range ea)) := by
  have hs : starEach [a] X.env = [(false, eval a X.env)] := by cases a <;> first | rfl | cases hn
  refine PI.imp (pi_range1 hg hm (pa_cons ha pa_nil hs) hs) fun σ H R ⟨Γ, L, G, env, ds, E, hv, k⟩ => ?_
  obtain ⟨x, hx, hi⟩ := it1_inv hv
  cases x with
  | int j =>
    obtain ⟨c, e⟩ := ifs (show (if small62 j = true then some (rangeD 0 1 j.toNat) else none) = some ds from hi)
    subst e
    have hb : -(2 ^ 62) ≤ j ∧ j < 2 ^ 62 := by simpa [small62] using c
    refine ⟨Γ, L, G, env, _, E, hx, fun v G' H' s r => ⟨j, by rw [show v = _ from r], hb.1, hb.2, k _ G' H' s ⟨fun i H x H' => H' = H ∧ x = .int (0 + i), ?_, ?_⟩⟩⟩
    · have e : (rangeD 0 1 j.toNat).length = j.toNat := by simp [rangeD]
      rw [e]
      exact walk_range.mono (fun _ _ => trivial) fun i H x H' _ _ y => y
    · intro i G2 H2 x H3 hi' q y
      obtain ⟨e1, rfl⟩ := y
      have hi2 : i < j.toNat := by simpa [rangeD] using hi'
      exact ⟨.int (0 + i * 1), by simp [rangeD, hi2], .inl ⟨e1, by rw [Int.mul_one]; exact .int _⟩⟩
  | _ => cases hi
theorem i_range2 (hg : Gl X "range") (hm : X.mg "range" = none) (ha : PE X a (tG X.K cls (PR X.K) ea)) (hn : notStar a = true) (hb : PE X b (tG X.K cls (PR X.K) eb)) (hn' : notStar b = true) : PI X tg (.Call (.Name "range" p) [a, b] [] pos) (tIt X.K false m cls (evIt2 .range ea eb)) := by
  have hs2 : starEach [b] X.env = [(false, eval b X.env)] := by cases b <;> first | rfl | cases hn'
  have hs : starEach [a, b] X.env = [(false, eval a X.env), (false, eval b X.env)] := by
    have h1 : starEach [a, b] X.env = (false, eval a X.env) :: starEach [b] X.env := by cases a <;> first | rfl | cases hn
    rw [h1, hs2]
  refine PI.imp (pi_range2 hg hm (pa_cons ha (pa_cons hb pa_nil hs2) (by rw [hs, hs2])) hs hs2) fun σ H R ⟨Γ, L, G, env, ds, E, hv, k⟩ => ?_
  obtain ⟨x, y, hx, hy, hi⟩ := it2_inv hv
  cases x with
  | int i0 =>
    cases y with
    | int j =>
      obtain ⟨c, e⟩ := ifs (show (if (small62 i0 && small62 j) = true then some (rangeD i0 1 (j - i0).toNat) else none) = some ds from hi)
      subst e
      have hb : (-(2 ^ 62) ≤ i0 ∧ i0 < 2 ^ 62) ∧ -(2 ^ 62) ≤ j ∧ j < 2 ^ 62 := by simpa [small62] using c
      refine ⟨Γ, L, G, env, _, E, hx, fun v G1 H1 s1 r1 => ⟨Γ, L, G1, env, _, E.step s1, hy, fun w G' H' s r => ⟨i0, j, by rw [show v = _ from r1, show w = _ from r], ⟨hb.1.1, hb.1.2, hb.2.1, hb.2.2⟩, k _ G' H' (s1.trans s) ⟨fun i H x H' => H' = H ∧ x = .int (i0 + i), ?_, ?_⟩⟩⟩⟩
      · have e : (rangeD i0 1 (j - i0).toNat).length = (j - i0).toNat := by simp [rangeD]
        rw [e]
        exact walk_range.mono (fun _ _ => trivial) fun i H x H' _ _ y => y
      · intro i G2 H2 x H3 hi' q y
        obtain ⟨e1, rfl⟩ := y
        have hi2 : i < (j - i0).toNat := by simpa [rangeD] using hi'
        exact ⟨.int (i0 + i * 1), by simp [rangeD, hi2], .inl ⟨e1, by rw [Int.mul_one]; exact .int _⟩⟩
    | _ => cases hi
  | _ => cases y <;> cases hi
theorem i_range3 (hg : Gl X "range") (hm : X.mg "range" = none) (ha : PE X a (tG X.K cls (PR X.K) ea)) (hn : notStar a = true) (hb : PE X b (tG X.K cls (PR X.K) eb)) (hn' : notStar b = true) (hc : PE X c (tG X.K cls (PR X.K) ec)) (hn'' : notStar c = true) :
    PI X tg (.Call (.Name "range" p) [a, b, c] [] pos) (tIt X.K false m cls (evIt3 .range ea eb ec)) := by
  have hs3 : starEach [c] X.env = (false, eval c X.env) :: starEach [] X.env := by cases c <;> first | rfl | cases hn''
  have hs2 : starEach [b, c] X.env = (false, eval b X.env) :: starEach [c] X.env := by cases b <;> first | rfl | cases hn'
  have hs : starEach [a, b, c] X.env = (false, eval a X.env) :: starEach [b, c] X.env := by cases a <;> first | rfl | cases hn
  refine PI.imp (pi_range3 hg hm (pa_cons ha (pa_cons hb (pa_cons hc pa_nil hs3) hs2) hs) hs (by rw [hs2, hs3]; rfl)) fun σ H R ⟨Γ, L, G, env, ds, E, hv, k⟩ => ?_
  obtain ⟨x, y, z, hx, hy, hz, hi⟩ := it3_inv hv
  cases x with
  | int i0 =>
    cases y with
    | int j =>
      cases z with
      | int c0 =>
        obtain ⟨c, e⟩ := ifs (show (if (small62 i0 && small62 j && decide (c0 ≠ 0) && decide (c0.natAbs < 1073741824) && Builtin.Range.small i0 j c0 && decide (0 ≤ Builtin.Range.rangeSize i0 j c0)) = true then some (rangeD i0 c0 (Builtin.Range.rangeSize i0 j c0).toNat) else none) = some ds from hi)
        subst e
        simp only [Bool.and_eq_true, decide_eq_true_eq] at c
        obtain ⟨⟨⟨⟨_, h1⟩, h2⟩, h3⟩, h4⟩ := c
        refine ⟨Γ, L, G, env, _, E, hx, fun v G1 H1 s1 r1 => ⟨Γ, L, G1, env, _, E.step s1, hy, fun w G2 H2 s2 r2 => ⟨Γ, L, G2, env, _, E.step (s1.trans s2), hz, fun u G' H' s r => ⟨i0, j, c0, (Builtin.Range.rangeSize i0 j c0).toNat, by rw [show v = _ from r1, show w = _ from r2, show u = _ from r], ⟨h1, h2, h3, ?_⟩, k _ G' H' (s1.trans (s2.trans s)) ⟨fun i H x H' => H' = H ∧ x = .int (i0 + i * c0), ?_, ?_⟩⟩⟩⟩⟩
        · omega
        · have e : (rangeD i0 c0 (Builtin.Range.rangeSize i0 j c0).toNat).length = (Builtin.Range.rangeSize i0 j c0).toNat := by simp [rangeD]
          rw [e]
          exact walk_rangeC.mono (fun _ _ => trivial) fun i H x H' _ _ y => y
        · intro i G2 H2 x H3 hi' q y
          obtain ⟨e1, rfl⟩ := y
          have hi2 : i < (Builtin.Range.rangeSize i0 j c0).toNat := by simpa [rangeD] using hi'
          exact ⟨.int (i0 + i * c0), by simp [rangeD, hi2], .inl ⟨e1, .int _⟩⟩
      | _ => cases hi
    | _ => cases z <;> cases hi
  | _ => cases y <;> cases z <;> cases hi
theorem enumD_get : ∀ (n i : Nat) (xs : List D), (enumD n xs)[i]? = xs[i]?.map fun x => .tup [.int (n + i : Nat), x]
  | n, i, [] => by simp [enumD]
  | n, 0, x :: r => by simp [enumD]
  | n, i + 1, x :: r => by
    rw [enumD, List.getElem?_cons_succ, List.getElem?_cons_succ, enumD_get (n + 1) i r, Nat.add_assoc, Nat.add_comm 1 i]
theorem enumD_len : ∀ (n : Nat) (xs : List D), (enumD n xs).length = xs.length
  | n, [] => rfl
  | n, x :: r => by simp [enumD, enumD_len]
theorem zipD_get : ∀ (xs ys : List D) (i : Nat) (x y : D), xs[i]? = some x → ys[i]? = some y → (zipD xs ys)[i]? = some (.tup [x, y])
  | [], _, i, x, y, h, _ => by simp at h
  | _ :: _, [], i, x, y, _, h => by simp at h
  | x :: r, y :: q, 0, _, _, h, h' => by simp at h h'; simp [zipD, h, h']
  | x :: r, y :: q, i + 1, _, _, h, h' => by simp only [zipD, List.getElem?_cons_succ] at *; exact zipD_get r q i _ _ h h'
theorem zipD_len : ∀ (xs ys : List D), (zipD xs ys).length = min xs.length ys.length
  | [], ys => by simp [zipD]
  | x :: r, [] => by simp [zipD]
  | x :: r, y :: q => by simp [zipD, zipD_len]
theorem i_enum {elts : List PySem.Expr} {kk : Nat} {tpos : Pos} (hg : Gl X "enumerate") (hm : X.mg "enumerate" = none) (h : PE X e (tSrc X.K m cls ea)) (hn : notStar e = true) : PI X (.Tuple elts kk tpos) (.Call (.Name "enumerate" p) [e] [] pos) (tIt X.K true m cls (evIt1 .enum ea)) := by
  have hs : starEach [e] X.env = [(false, eval e X.env)] := by cases e <;> first | rfl | cases hn
  refine PI.imp (PI.or (pi_enum hg hm (pa_cons h pa_nil hs) hs) (pi_enumT hg hm (pa_cons h pa_nil hs) hs)) fun σ H R ⟨Γ, L, G, env, ds, E, hv, k⟩ => ?_
  obtain ⟨x, hx, hi⟩ := it1_inv hv
  have fin : ∀ {ys : List V} {xs : List D} {G' H2 H3 : Hp} {x : V} {i : Nat}, RepL X.K G' ys xs → YPair (fun i => some (.int (i : Nat))) (fun i => ys[i]?) i H2 x H3 → ∃ d, (enumD 0 xs)[i]? = some d ∧ YD X.K true G' H2 x H3 d := by
    intro ys xs G' H2 H3 x i rr y
    obtain ⟨T, u, w, h1, h2, h3, h4, h5⟩ := y
    cases h4
    obtain ⟨d, q1, q2⟩ := rr.getV h5
    exact ⟨.tup [.int (i : Nat), d], by rw [enumD_get, q1]; simp, .inr ⟨T, _, w, _, d, rfl, h1, h2, h3, rfl, .int _, q2⟩⟩
  cases x with
  | lst xs =>
    cases hi
    refine .inl ⟨Γ, L, G, env, _, E, hx, fun v G' H' s src => ?_⟩
    obtain ⟨a, ys, rfl, rr, st⟩ := src
    refine ⟨a, ys, rfl, st G' H' (E.step s).stab, k _ G' H' s ⟨YPair (fun i => some (.int (i : Nat))) (fun i => ys[i]?), ?_, fun i G2 H2 x H3 _ _ y => fin rr y⟩⟩
    rw [enumD_len, ← rr.length]
    exact walk_enum.mono (fun H ⟨G, q⟩ => st G H q) fun i H x H' _ _ y => y
  | tup xs =>
    cases hi
    refine .inr ⟨Γ, L, G, env, _, E, hx, fun v G' H' s src => ?_⟩
    obtain ⟨a, ys, rfl, rr, st⟩ := src
    refine ⟨a, ys, rfl, st G' H' (E.step s).stab, k _ G' H' s ⟨YPair (fun i => some (.int (i : Nat))) (fun i => ys[i]?), ?_, fun i G2 H2 x H3 _ _ y => fin rr y⟩⟩
    rw [enumD_len, ← rr.length]
    exact walk_enumT.mono (fun H ⟨G, q⟩ => st G H q) fun i H x H' _ _ y => y
  | _ => cases hi
theorem walk_zipT {K : PySem.W.Frag} {a b : Addr} {xs ys : List V} {n : Nat} (hn : n = min xs.length ys.length) : Walk (RZ.ItzT K a b) n (fun H => SqT K H a xs ∧ SqT K H b ys) (YPair (fun i => xs[i]?) (fun i => ys[i]?)) := by
  subst hn
  refine ⟨fun i _ hi q => ?_, fun _ q => ⟨xs, ys, q.1, q.2, by omega⟩, fun i H v H' _ q y => ?_⟩
  · have h1 : i < xs.length := by omega
    have h2 : i < ys.length := by omega
    exact ⟨xs, ys, xs[i], ys[i], q.1, q.2, by simp [h1], by simp [h2]⟩
  · obtain ⟨T, x, z, h1, h2, h3, h4, h5⟩ := y
    exact ⟨T, x, z, h1, h2, h3, h4 xs q.1, h5 ys q.2⟩
theorem i_zip {elts : List PySem.Expr} {kk : Nat} {tpos : Pos} (hg : Gl X "zip") (hm : X.mg "zip" = none) (ha : PE X a (tSrc X.K m cls ea)) (hn : notStar a = true) (hb : PE X b (tSrc X.K m cls eb)) (hn' : notStar b = true) : PI X (.Tuple elts kk tpos) (.Call (.Name "zip" p) [a, b] [] pos) (tIt X.K true m cls (evIt2 .zip ea eb)) := by
  have hs2 : starEach [b] X.env = (false, eval b X.env) :: starEach [] X.env := by cases b <;> first | rfl | cases hn'
  have hs : starEach [a, b] X.env = (false, eval a X.env) :: starEach [b] X.env := by cases a <;> first | rfl | cases hn
  refine PI.imp (PI.or (RZ.pi_zipA hg hm (pa_cons ha (pa_cons hb pa_nil hs2) hs) hs (by rw [hs2]; rfl)) (pi_zipM hg hm (pa_cons ha (pa_cons hb pa_nil hs2) hs) hs (by rw [hs2]; rfl))) fun σ H R ⟨Γ, L, G, env, ds, E, hv, k⟩ => ?_
  obtain ⟨x, y, hx, hy, hi⟩ := it2_inv hv
  cases x with
  | lst xs =>
    cases y with
    | lst zs =>
      cases hi
      refine .inl ⟨Γ, L, G, env, _, E, hx, fun v G1 H1 s1 src1 => ⟨Γ, L, G1, env, _, E.step s1, hy, fun w G' H' s src => ?_⟩⟩
      obtain ⟨a, ys, rfl, rr, st⟩ := SrcOk.step s src1
      obtain ⟨b, us, rfl, rr', st'⟩ := src
      have E' := E.step (s1.trans s)
      refine ⟨a, b, ys, us, rfl, .inl ⟨st G' H' E'.stab, st' G' H' E'.stab, k _ G' H' (s1.trans s) ⟨YPair (fun i => ys[i]?) (fun i => us[i]?), ?_, ?_⟩⟩⟩
      · exact (walk_zip (by rw [zipD_len, rr.length, rr'.length])).mono (fun H ⟨G, q⟩ => ⟨st G H q, st' G H q⟩) fun i H x H' _ _ y => y
      · intro i G2 H2 x H3 hi' q y
        obtain ⟨T, u, w, h1, h2, h3, h4, h5⟩ := y
        obtain ⟨d, q1, q2⟩ := rr.getV h4
        obtain ⟨d', q1', q2'⟩ := rr'.getV h5
        exact ⟨.tup [d, d'], zipD_get _ _ _ _ _ q1 q1', .inr ⟨T, u, w, d, d', rfl, h1, h2, h3, rfl, q2, q2'⟩⟩
    | tup zs =>
      cases hi
      refine .inr ⟨Γ, L, G, env, _, E, hx, fun v G1 H1 s1 src1 => ⟨Γ, L, G1, env, _, E.step s1, hy, fun w G' H' s src => ?_⟩⟩
      obtain ⟨a, ys, rfl, rr, st⟩ := SrcOk.step s src1
      obtain ⟨b, us, rfl, rr', st'⟩ := src
      have E' := E.step (s1.trans s)
      refine ⟨a, b, ys, us, rfl, st G' H' E'.stab, st' G' H' E'.stab, k _ G' H' (s1.trans s) ⟨YPair (fun i => ys[i]?) (fun i => us[i]?), ?_, ?_⟩⟩
      · exact (walk_zipM (by rw [zipD_len, rr.length, rr'.length])).mono (fun H ⟨G, q⟩ => ⟨st G H q, st' G H q⟩) fun i H x H' _ _ y => y
      · intro i G2 H2 x H3 hi' q y
        obtain ⟨T, u, w, h1, h2, h3, h4, h5⟩ := y
        obtain ⟨d, q1, q2⟩ := rr.getV h4
        obtain ⟨d', q1', q2'⟩ := rr'.getV h5
        exact ⟨.tup [d, d'], zipD_get _ _ _ _ _ q1 q1', .inr ⟨T, u, w, d, d', rfl, h1, h2, h3, rfl, q2, q2'⟩⟩
    | _ => cases hi
  | tup xs =>
    cases y with
    | tup zs =>
      cases hi
      refine .inl ⟨Γ, L, G, env, _, E, hx, fun v G1 H1 s1 src1 => ⟨Γ, L, G1, env, _, E.step s1, hy, fun w G' H' s src => ?_⟩⟩
      obtain ⟨a, ys, rfl, rr, st⟩ := SrcOk.step s src1
      obtain ⟨b, us, rfl, rr', st'⟩ := src
      have E' := E.step (s1.trans s)
      refine ⟨a, b, ys, us, rfl, .inr ⟨st G' H' E'.stab, st' G' H' E'.stab, k _ G' H' (s1.trans s) ⟨YPair (fun i => ys[i]?) (fun i => us[i]?), ?_, ?_⟩⟩⟩
      · exact (walk_zipT (by rw [zipD_len, rr.length, rr'.length])).mono (fun H ⟨G, q⟩ => ⟨st G H q, st' G H q⟩) fun i H x H' _ _ y => y
      · intro i G2 H2 x H3 hi' q y
        obtain ⟨T, u, w, h1, h2, h3, h4, h5⟩ := y
        obtain ⟨d, q1, q2⟩ := rr.getV h4
        obtain ⟨d', q1', q2'⟩ := rr'.getV h5
        exact ⟨.tup [d, d'], zipD_get _ _ _ _ _ q1 q1', .inr ⟨T, u, w, d, d', rfl, h1, h2, h3, rfl, q2, q2'⟩⟩
    | _ => cases hi
  | _ => cases y <;> cases hi
/-! dicts, under a lock -/
def tItD (K : PySem.W.Frag) (pr m : Bool) (cls : List Cl) (io : ItOp) (i : Nat) : TI := fun σ H R => ∃ Γ L G env kvs a o ks ds, EnvRel K Γ L cls G env σ H ∧ look env i = some (.dic kvs) ∧ σ[i]? = some (some (.ref a)) ∧ (a, HO.frz o (.dK ks)) ∈ Γ.lk ∧ RepK K G ks kvs ∧ iterD io [.dic kvs] = some ds ∧
  ∀ J, WalkD K pr (Stab m Γ L G H) G J ds → R J H
theorem Stab.lk {Γ : Gh} {L : List Addr} {G1 H1 G H : Hp} {q : Addr × HO} (h1 : H1 q.1 = some q.2) (hq : q ∈ Γ.lk) (s : Stab m Γ L G1 H1 G H) : H q.1 = some q.2 := by
  cases m with
  | true => exact Step.hh s _ _ h1
  | false => exact s.2.2.2 q hq
theorem i_keys {i : Nat} {x : Str} (hN : X.N[i]? = some x) (hv : Vis X.env.scope x) (h1 : (x == ("__debug__" : Str)) = false) (h2 : (x == ("__classdict__" : Str)) = false) : PI X tg (.Name x pos) (tItD X.K false m cls .keys i) :=
  PI.imp (pi_keys (pe_var hN hv h1 h2)) fun σ H R ⟨Γ, L, G, env, kvs, a, o, ks, ds, E, hl, hs, hk, rk, hi, k⟩ => by
    cases hi
    have hH := (E.lks _ hk).1
    refine ⟨_, hs, a, o, rfl, .inl ⟨ks, hH, k _ ⟨fun i H x H' => H' = H ∧ ∃ k v, ks[i]? = some (k, v) ∧ x = kV k, ?_, ?_⟩⟩⟩
    · rw [List.length_map, ← rk.length]
      exact walk_keys.mono (fun H ⟨G, q⟩ => Stab.lk hH hk q) fun i H x H' _ _ y => y
    · intro i G2 H2 x H3 hi' q y
      obtain ⟨e1, key, v, e2, rfl⟩ := y
      obtain ⟨d, q1, q2⟩ := rk.keys.getV (i := i) (v := kV key) (by rw [List.getElem?_map, e2]; rfl)
      exact ⟨d, q1, .inl ⟨e1, q2⟩⟩
theorem i_vals {i : Nat} {x : Str} {apos cpos : Pos} (hN : X.N[i]? = some x) (hv : Vis X.env.scope x) (h1 : (x == ("__debug__" : Str)) = false) (h2 : (x == ("__classdict__" : Str)) = false) (hab : abB (.Name x pos) = true) (hline : (apos.endLine == cpos.line) = true) :
    PI X tg (.Call (.Attribute (.Name x pos) "values" apos) [] [] cpos) (tItD X.K false m cls .vals i) :=
  PI.imp (pi_values (pe_var hN hv h1 h2) (abB_ok hab) hline) fun σ H R ⟨Γ, L, G, env, kvs, a, o, ks, ds, E, hl, hs, hk, rk, hi, k⟩ => by
    cases hi
    have hH := (E.lks _ hk).1
    refine ⟨_, hs, a, o, ks, rfl, hH, k _ ⟨fun i H x H' => H' = H ∧ ∃ k, ks[i]? = some (k, x), ?_, ?_⟩⟩
    · rw [List.length_map, ← rk.length]
      exact walk_values.mono (fun H ⟨G, q⟩ => Stab.lk hH hk q) fun i H x H' _ _ y => y
    · intro i G2 H2 x H3 hi' q y
      obtain ⟨e1, key, e2⟩ := y
      obtain ⟨d, q1, q2⟩ := rk.vals.getV (i := i) (v := x) (by rw [List.getElem?_map, e2]; rfl)
      exact ⟨d, q1, .inl ⟨e1, q2⟩⟩
theorem RepK.at {K : PySem.W.Frag} {G : Hp} : ∀ {ks : List (Key × V)} {kvs : List (Key × D)}, RepK K G ks kvs → ∀ {i : Nat} {k : Key} {v : V}, ks[i]? = some (k, v) → ∃ d, kvs[i]? = some (k, d) ∧ Rep K G v d
  | _, _, .nil, i, k, v, h => by simp at h
  | _, _, .cons r t, i, k, v, h => by
    cases i with
    | zero => simp at h; obtain ⟨rfl, rfl⟩ := h; exact ⟨_, by simp, r⟩
    | succ i =>
      obtain ⟨d, q1, q2⟩ := RepK.at t (i := i) (by simpa using h)
      exact ⟨d, by simpa using q1, q2⟩
theorem i_items {i : Nat} {x : Str} {apos cpos : Pos} {elts : List PySem.Expr} {kk : Nat} {tpos : Pos} (hN : X.N[i]? = some x) (hv : Vis X.env.scope x) (h1 : (x == ("__debug__" : Str)) = false) (h2 : (x == ("__classdict__" : Str)) = false) (hab : abB (.Name x pos) = true) (hline : (apos.endLine == cpos.line) = true) :
    PI X (.Tuple elts kk tpos) (.Call (.Attribute (.Name x pos) "items" apos) [] [] cpos) (tItD X.K true m cls .items i) :=
  PI.imp (pi_items (pe_var hN hv h1 h2) (abB_ok hab) hline) fun σ H R ⟨Γ, L, G, env, kvs, a, o, ks, ds, E, hl, hs, hk, rk, hi, k⟩ => by
    cases hi
    have hH := (E.lks _ hk).1
    refine ⟨_, hs, a, o, ks, rfl, hH, k _ ⟨YPair (fun i => ks[i]?.map fun kv => kV kv.1) (fun i => ks[i]?.map Prod.snd), ?_, ?_⟩⟩
    · rw [List.length_map, ← rk.length]
      exact walk_items.mono (fun H ⟨G, q⟩ => Stab.lk hH hk q) fun i H x H' _ _ y => y
    · intro i G2 H2 x H3 hi' q y
      obtain ⟨T, u, w, q1, q2, q3, q4, q5⟩ := y
      simp only [] at q4 q5
      cases hk' : ks[i]? with
      | none => rw [hk'] at q4; cases q4
      | some kv =>
        obtain ⟨key, v⟩ := kv
        rw [hk'] at q4 q5
        cases q4; cases q5
        obtain ⟨d, p1, p2⟩ := rk.at hk'
        exact ⟨.tup [ofKey key, d], by rw [List.getElem?_map, p1]; rfl, .inr ⟨T, _, _, _, _, rfl, q1, q2, q3, rfl, .ofKey _, p2⟩⟩
end
/-- where a dict that is walked stands -/
theorem dict_src {K : PySem.W.Frag} {Γ : Gh} {L : List Addr} {cls : List Cl} {G H : Hp} {env : PyI.Env} {σ : L2.St} {i : Nat} {kvs : List (Key × D)} (E : EnvRel K Γ L cls G env σ H) (hl : look env i = some (.dic kvs)) (hc : clA cls i ≠ .O) :
    ∃ a ks, σ[i]? = some (some (.ref a)) ∧ RepK K G ks kvs ∧ NotO Γ G a ∧ (H a = some (.dK ks) ∨ ∃ o, H a = some (.frz o (.dK ks))) := by
  obtain ⟨v, e1, e2⟩ := E.look hl
  have go : ∀ {v}, Rep K G v (.dic kvs) → ∃ a ks, v = .ref a ∧ RepK K G ks kvs ∧ NotO Γ G a ∧ (H a = some (.dK ks) ∨ ∃ o, H a = some (.frz o (.dK ks))) := by
    intro v r
    cases r with
    | @dic a ks _ h rr =>
      refine ⟨a, ks, rfl, rr, .inl ?_, E.fz.rd h⟩
      rcases h with h | ⟨o, h⟩ <;> rw [h] <;> simp
  cases q : clA cls i with
  | F =>
    rw [q] at e2
    obtain ⟨a, ks, rfl, h⟩ := go e2
    exact ⟨a, ks, e1, h⟩
  | B =>
    rw [q] at e2
    rcases e2 with e2 | ⟨a, rfl, hn, ks, h, rr⟩
    · obtain ⟨a, ks, rfl, h⟩ := go e2
      exact ⟨a, ks, e1, h⟩
    · refine ⟨a, ks, e1, rr, .inr ⟨?_, hn⟩, At.rdu (o := .dK ks) h fun o e => E.kp a o e hn⟩
      rcases h with h | ⟨o, h⟩ <;> rw [h] <;> simp
  | O => exact absurd q hc
end PyI
end

section
set_option maxRecDepth 100000
set_option maxHeartbeats 4000000
namespace PyI
open PySem PySem.Spec PyProof.Rows L2
def setsV (σ : L2.St) : List Nat → List V → L2.St
  | i :: is, v :: vs => setsV (σ.set i (some v)) is vs
  | _, _ => σ
def gNms : List Nat → TGs
  | [] => gNil
  | i :: is => gCons (gName i) (gNms is)
def gOf (K : PySem.W.Frag) : Tg → TG
  | .name i => gName i
  | .tup is => gTup K is.length (gNms is)
theorem gNms_ok : ∀ {is : List Nat} {vs : List V} {σ : L2.St} {H : Hp} {Q : L2.St → Hp → Prop}, is.length = vs.length → Q (setsV σ is vs) H → gNms is vs σ H Q
  | [], [], _, _, _, _, q => ⟨rfl, q⟩
  | i :: is, v :: vs, σ, H, Q, h, q => ⟨v, vs, rfl, gNms_ok (is := is) (by simpa using h) q⟩
  | [], _ :: _, _, _, _, h, _ => by simp at h
  | _ :: _, [], _, _, _, h, _ => by simp at h
theorem setsV_len : ∀ {is : List Nat} {vs : List V} {σ : L2.St}, (setsV σ is vs).length = σ.length
  | [], _, _ => rfl
  | i :: is, [], _ => rfl
  | i :: is, v :: vs, σ => by rw [setsV, setsV_len, List.length_set]
theorem setsV_off : ∀ {is : List Nat} {vs : List V} {σ : L2.St} {j : Nat}, j ∉ is → (setsV σ is vs)[j]? = σ[j]?
  | [], _, _, _, _ => rfl
  | i :: is, [], _, _, _ => rfl
  | i :: is, v :: vs, σ, j, h => by
    rw [setsV, setsV_off (fun q => h (List.mem_cons_of_mem _ q)), List.getElem?_set_ne (fun q => h (by rw [q]; exact List.mem_cons_self))]
theorem setsV_eq : ∀ {is : List Nat} {vs : List V} {σ σ' : L2.St}, is.length = vs.length → σ.length = σ'.length → (∀ j, j ∉ is → σ[j]? = σ'[j]?) → setsV σ is vs = setsV σ' is vs
  | [], _, σ, σ', _, _, h => List.ext_getElem? fun j => h j (by simp)
  | i :: is, [], σ, σ', e, _, h => by simp at e
  | i :: is, v :: vs, σ, σ', e, hl, h => by
    rw [setsV, setsV]
    refine setsV_eq (by simpa using e) (by simpa using hl) fun j hj => ?_
    by_cases q : j = i
    · subst q
      by_cases hb : j < σ.length
      · rw [List.getElem?_set_self hb, List.getElem?_set_self (by omega)]
      · rw [List.getElem?_eq_none (by simp; omega), List.getElem?_eq_none (by simp; omega)]
    · rw [List.getElem?_set_ne (Ne.symm q), List.getElem?_set_ne (Ne.symm q)]
      exact h j (by simp; exact ⟨q, hj⟩)
theorem wipe_off {σ : L2.St} : ∀ {is : List Nat} {j : Nat}, j ∉ is → (wipe σ is)[j]? = σ[j]?
  | [], _, _ => rfl
  | i :: is, j, h => by
    rw [wipe, List.getElem?_set_ne (fun q => h (by rw [q]; exact List.mem_cons_self))]
    exact wipe_off fun q => h (List.mem_cons_of_mem _ q)
theorem wipe_eq {σ σ' : L2.St} : ∀ {is : List Nat}, σ.length = σ'.length → (∀ j, j ∉ is → σ[j]? = σ'[j]?) → wipe σ is = wipe σ' is := by
  intro is hl h
  have on : ∀ (σ : L2.St) (is : List Nat) (j : Nat), j ∈ is → j < σ.length → (wipe σ is)[j]? = some none := by
    intro σ is
    induction is with
    | nil => intro j h; simp at h
    | cons i is ih =>
      intro j hj hb
      rw [wipe]
      by_cases q : j = i
      · subst q; rw [List.getElem?_set_self (by rw [wipe_length]; exact hb)]
      · rw [List.getElem?_set_ne (Ne.symm q)]
        exact ih j ((List.mem_cons.mp hj).resolve_left q) hb
  refine List.ext_getElem? fun j => ?_
  by_cases q : j ∈ is
  · by_cases hb : j < σ.length
    · rw [on σ is j q hb, on σ' is j q (by omega)]
    · rw [List.getElem?_eq_none (by rw [wipe_length]; omega), List.getElem?_eq_none (by rw [wipe_length]; omega)]
  · rw [wipe_off q, wipe_off q]; exact h j q
section
variable {K : PySem.W.Frag} {Γ : Gh} {L : List Addr} {cls : List Cl} {G H G' H' G1 H1 : Hp} {env : PyI.Env} {σ : L2.St} {v : V} {d : D}
/-- slots that a target may take -/
theorem tgF_set {cls : List Cl} {is : List Nat} {i : Nat} (h : tgF cls is = true) : tgF (cls.set i .F) is = true := by
  unfold tgF at *
  rw [List.all_eq_true] at *
  intro j hj
  have := h j hj
  simp only [Bool.and_eq_true, decide_eq_true_eq, List.length_set] at *
  refine ⟨?_, this.2⟩
  by_cases hi : i < cls.length
  · rw [clA_set hi]
    split
    · simp
    · exact this.1
  · rw [List.set_eq_of_length_le (by omega)]; exact this.1
theorem EnvRel.setF' (E : EnvRel K Γ L cls G env σ H) {i : Nat} (r : Rep K G v d) (hi : i < cls.length) (hc : clA cls i ≠ .O) : EnvRel K Γ L (cls.set i .F) G (env.set i (some d)) (σ.set i (some v)) H :=
  E.setF r hi fun p hp q => hc (by rw [← q]; exact (E.io p hp).1)
theorem EnvRel.setsF : ∀ {is : List Nat} {vs : List V} {ds : List D} {cls : List Cl} {env : PyI.Env} {σ : L2.St}, EnvRel K Γ L cls G env σ H → RepL K G vs ds → is.length = ds.length → tgF cls is = true →
    EnvRel K Γ L (is.foldl (fun c i => c.set i .F) cls) G (setAll env is ds) (setsV σ is vs) H
  | [], _, _, cls, env, σ, E, .nil, _, _ => E
  | i :: is, _, _, cls, env, σ, E, .cons r rr, h, ht => by
    have h0 : clA cls i ≠ .O ∧ i < cls.length := by
      unfold tgF at ht
      have := List.all_eq_true.mp ht i List.mem_cons_self
      simpa using this
    have ht' : tgF cls is = true := by
      unfold tgF at *
      rw [List.all_eq_true] at *
      exact fun j hj => ht j (List.mem_cons_of_mem _ hj)
    exact EnvRel.setsF (is := is) (cls := cls.set i .F) (E.setF' r h0.2 h0.1) rr (by simpa using h) (tgF_set ht')
theorem tgt_ok {tg : Tg} {pr : Bool} {x : V} {env' : PyI.Env} {σ0 : L2.St} {Q : L2.St → Hp → Prop} (hpr : pr = true → isTupTg tg = true) (hf : tgF cls (ixT tg) = true) (E : EnvRel K Γ L cls G env σ H) (y : YD K pr G1 H x H' d) (e : Ex G1 G) (hb : bindT tg d env = some env')
    (hl : σ0.length = σ.length) (ho : ∀ j, j ∉ ixT tg → σ0[j]? = σ[j]?) (k : ∀ σ', Step (L ++ Γ.L0) G H G H' → EnvRel K Γ L (clsT cls tg) G env' σ' H' → σ'.length = σ.length → (∀ j, j ∉ ixT tg → σ'[j]? = σ[j]?) → Q σ' H') : gOf K tg x σ0 H' Q := by
  cases tg with
  | name i =>
    cases hb
    rcases y with ⟨rfl, r⟩ | ⟨T, u, w, du, dw, hp, _⟩
    · have h0 : clA cls i ≠ .O ∧ i < cls.length := by simpa [tgF, ixT] using hf
      have eq : σ0.set i (some x) = σ.set i (some x) := setsV_eq (is := [i]) (vs := [x]) rfl hl ho
      show Q (σ0.set i (some x)) H'
      rw [eq]
      refine k _ (Step.refl E.fz) (E.setF' (r.mono e) h0.2 h0.1) (by simp) fun j hj => ?_
      exact List.getElem?_set_ne (fun q => hj (by simp [ixT, q]))
    · exact absurd (hpr hp) (by simp [isTupTg])
  | tup is =>
    have fin : ∀ {xs : List V} {ds : List D} {a : Addr}, SqT K H' a xs → RepL K G xs ds → d = .tup ds → x = .ref a → Step (L ++ Γ.L0) G H G H' → gOf K (.tup is) x σ0 H' Q := by
      intro xs ds a hq rr hd hx s
      subst hd hx
      obtain ⟨hlen, e1⟩ := ifs (show (if is.length = ds.length then some (setAll env is ds) else none) = some env' from hb)
      subst e1
      have hlv : is.length = xs.length := by rw [hlen, rr.length]
      refine ⟨a, xs, rfl, hq, hlv.symm, gNms_ok hlv ?_⟩
      rw [setsV_eq hlv hl ho]
      exact k _ s (EnvRel.setsF (E.step s) rr hlen hf) setsV_len fun j hj => setsV_off hj
    rcases y with ⟨rfl, r⟩ | ⟨T, u, w, du, dw, hp, rfl, hT, rfl, rfl, ru, rw'⟩
    · cases d with
      | tup ds =>
        cases r with
        | @tup a xs _ h rr => exact fin (E.fz.sqT (ex_t e h.sq)) (rr.mono e) rfl rfl (Step.refl E.fz)
      | _ => cases hb
    · exact fin (SqT.of (by rw [upd_same])) (.cons (ru.mono e) (.cons (rw'.mono e) .nil)) rfl rfl (Step.new E.fz hT)
end
/-! comprehensions -/
def tTs (K : PySem.W.Frag) (cls : List Cl) (ev : PyI.Env → Option Bool) : TT := fun σ H Q => ∃ Γ L G env b, EnvRel K Γ L cls G env σ H ∧ ev env = some b ∧ ∀ G' H', Step (L ++ Γ.L0) G H G' H' → Q b H'
def fC (ecs : PyI.Env → Option Bool) (elt : EvD) (tg : Tg) (env : PyI.Env) : D → Option (Option D) := fun x => match bindT tg x env with
  | some env' => (match ecs env' with
    | some true => (match elt env' with
      | some y => some (some y)
      | none => none)
    | some false => some none
    | none => none)
  | none => none
def evComp (ecs : PyI.Env → Option Bool) (elt : EvD) (tg : Tg) (src : PyI.Env → Option (List D)) : EvD := fun env => match src env with
  | some xs => (if xs.length ≤ BIG then match compL (fC ecs elt tg env) xs with
    | some ys => some (.lst ys)
    | none => none
    else none)
  | none => none
theorem comp_inv {ecs : PyI.Env → Option Bool} {elt : EvD} {tg : Tg} {src : PyI.Env → Option (List D)} {env : PyI.Env} {d : D} (h : evComp ecs elt tg src env = some d) : ∃ xs ys, src env = some xs ∧ xs.length ≤ BIG ∧ compL (fC ecs elt tg env) xs = some ys ∧ d = .lst ys := by
  unfold evComp at h
  split at h
  · rename_i xs hx
    by_cases hb : xs.length ≤ BIG
    · rw [if_pos hb] at h
      split at h
      · rename_i ys hy
        cases h
        exact ⟨xs, ys, hx, hb, hy, rfl⟩
      · cases h
    · rw [if_neg hb] at h; cases h
  · cases h
section
variable {K : PySem.W.Frag} {Γ : Gh} {L M : List Addr} {cls : List Cl} {G H G' H' G1 H1 G4 H4 : Hp} {env : PyI.Env} {σ : L2.St} {v : V} {d : D}
theorem Step.updD {D : Addr} {o : HO} (s : Step M G1 H1 G4 H4) (h1 : H1 D = none) (g : G4 D = none) (hn : D ∉ M) : Step M G1 H1 G4 (upd H4 D o) where
  hh := fun b o' q => by
    have z : b ≠ D := fun z => by rw [z, h1] at q; cases q
    rw [upd_ne z]; exact s.hh b o' q
  gg := s.gg
  fr := s.fr
  fz := ⟨fun b o' q => by
    have z : b ≠ D := fun z => by rw [z, g] at q; cases q
    rcases s.fz.sub b o' q with ⟨l, h⟩ | ⟨l, o2, kvs, e, h⟩
    · exact .inl ⟨l, by rw [upd_ne z]; exact h⟩
    · exact .inr ⟨l, o2, kvs, e, by rw [upd_ne z]; exact h⟩, fun b hb => by
    obtain ⟨o2, kvs, h⟩ := s.fz.lk b hb
    have z : b ≠ D := fun z => hn (by rw [← z]; exact hb)
    exact ⟨o2, kvs, by rw [upd_ne z]; exact h⟩⟩
theorem compL_cons {f : D → Option (Option D)} {x : D} {r ys : List D} (h : compL f (x :: r) = some ys) : (∃ y zs, f x = some (some y) ∧ compL f r = some zs ∧ ys = y :: zs) ∨ (f x = some none ∧ compL f r = some ys) := by
  rw [compL] at h
  split at h
  · rename_i y hy
    cases hz : compL f r with
    | none => rw [hz] at h; cases h
    | some zs => rw [hz] at h; cases h; exact .inl ⟨y, zs, hy, rfl, rfl⟩
  · rename_i hy; exact .inr ⟨hy, h⟩
  · cases h
theorem lc_use {J : It} {ds ys : List D} {pr : Bool} {tg : Tg} {ecs : PyI.Env → Option Bool} {elt : EvD} {Q : VK} (E : EnvRel K Γ L cls G1 env σ H1) (w : WalkD K pr (Stab true Γ L G1 H1) G1 J ds) (hpr : pr = true → isTupTg tg = true) (hf : tgF cls (ixT tg) = true)
    (hc : compL (fC ecs elt tg env) ds = some ys) (hB : ds.length ≤ BIG) (k : ∀ v G' H', Step (L ++ Γ.L0) G1 H1 G' H' → ResF K G' H1 H' v (.lst ys) → Q v H') (D : Addr) (hD : H1 D = none) :
    ∃ W : Nat → Nat → Hp → Prop, (∃ m, W 0 m (upd H1 D (.lst []))) ∧ ∀ i m H, W i m H →
      (J.stop i H ∧ Q (.ref D) H) ∨ (J.go i H ∧ ∃ Nx : Hp → Prop, (∀ H', Nx H' → ∃ m', m' < m ∧ W (i + 1) m' H') ∧ ∀ x H', J.yld i H x H' → gOf K tg x (wipe σ (ixT tg)) H' fun σ2 H2 => wipe σ2 (ixT tg) = wipe σ (ixT tg) ∧ tTs K (clsT cls tg) ecs σ2 H2 fun b H3 =>
        if b = true then tG K (clsT cls tg) (PV K) elt σ2 H3 fun y H4 => ∃ acc, H4 D = some (.lst acc) ∧ acc.length < sizeLine ∧ Nx (upd H4 D (.lst (acc ++ [y]))) else Nx H3) := by
  obtain ⟨Y, wk, wy⟩ := w
  have hDL : D ∉ L ++ Γ.L0 := E.fz.nl hD
  refine lc_it wk (Qd := fun H => Q (.ref D) H) (fun i H => ∃ G acc done rest, Step (L ++ Γ.L0) G1 H1 G H ∧ H D = some (.lst acc) ∧ G D = none ∧ RepL K G acc done ∧ acc.length ≤ i ∧ ys = done ++ rest ∧ compL (fC ecs elt tg env) (ds.drop i) = some rest) ?_ ?_ ?_ ?_
  · exact ⟨G1, [], [], ys, Step.new E.fz hD, upd_same, E.fz.ne hD, .nil, Nat.le_refl _, rfl, hc⟩
  · rintro i H _ ⟨G, acc, done, rest, s, _⟩
    exact ⟨G, s⟩
  · rintro i x H H' hi ⟨G, acc, done, rest, s, hacc, hg, rr, hl, hy, hr⟩ y
    obtain ⟨d, hd, yd⟩ := wy i G H x H' hi s y
    have hdrop : ds.drop i = d :: ds.drop (i + 1) := by
      rw [List.drop_eq_getElem_cons hi]
      rw [List.getElem?_eq_getElem hi] at hd
      cases hd; rfl
    rw [hdrop] at hr
    have E' := E.step s
    have frD : ∀ {G4 H4 : Hp}, Step (L ++ Γ.L0) G H G4 H4 → G4 D = none := by
      intro G4 H4 s4
      cases q : G4 D with
      | none => rfl
      | some o =>
        rcases s4.fr D (by rw [q]; simp) with z | z
        · exact absurd hg z
        · rw [hacc] at z; cases z
    have main : ∀ {env' : PyI.Env} {b : Bool}, bindT tg d env = some env' → ecs env' = some b → (b = true → ∃ y zs, elt env' = some y ∧ rest = y :: zs ∧ compL (fC ecs elt tg env) (ds.drop (i + 1)) = some zs) → (b = false → compL (fC ecs elt tg env) (ds.drop (i + 1)) = some rest) →
        gOf K tg x (wipe σ (ixT tg)) H' fun σ2 H2 => wipe σ2 (ixT tg) = wipe σ (ixT tg) ∧ tTs K (clsT cls tg) ecs σ2 H2 fun b H3 =>
        if b = true then tG K (clsT cls tg) (PV K) elt σ2 H3 fun y H4 => ∃ acc, H4 D = some (.lst acc) ∧ acc.length < sizeLine ∧ (fun i H => ∃ G acc done rest, Step (L ++ Γ.L0) G1 H1 G H ∧ H D = some (.lst acc) ∧ G D = none ∧ RepL K G acc done ∧ acc.length ≤ i ∧ ys = done ++ rest ∧ compL (fC ecs elt tg env) (ds.drop i) = some rest) (i + 1) (upd H4 D (.lst (acc ++ [y]))) else (fun i H => ∃ G acc done rest, Step (L ++ Γ.L0) G1 H1 G H ∧ H D = some (.lst acc) ∧ G D = none ∧ RepL K G acc done ∧ acc.length ≤ i ∧ ys = done ++ rest ∧ compL (fC ecs elt tg env) (ds.drop i) = some rest) (i + 1) H3 := by
      intro env' b hb hcs ht hfl
      refine tgt_ok hpr hf E' yd s.gg hb (wipe_length _ _) (fun j hj => wipe_off hj) fun σ' s2 E2 hl2 ho2 => ⟨wipe_eq hl2 ho2, Γ, L, G, env', b, E2, hcs, fun G3 H3 s3 => ?_⟩
      cases b with
      | true =>
        rw [if_pos rfl]
        obtain ⟨z, zs, hz, hrest, hzs⟩ := ht rfl
        refine ⟨Γ, L, G3, env', z, E2.step s3, hz, fun v G4 H4 s4 r => ?_⟩
        have s24 := s2.trans (s3.trans s4)
        have hD4 : H4 D = some (.lst acc) := s24.hh _ _ hacc
        refine ⟨acc, hD4, Nat.lt_of_lt_of_le (Nat.lt_of_le_of_lt hl hi) (Nat.le_trans hB BIG_line), G4, acc ++ [v], done ++ [z], zs, (s.trans s24).updD hD (frD s24) hDL, upd_same, frD s24, (rr.mono s24.gg).append (.cons r .nil), by simp; omega, by rw [hy, hrest]; simp, hzs⟩
      | false =>
        rw [if_neg (by decide)]
        have s23 := s2.trans s3
        exact ⟨G3, acc, done, rest, s.trans s23, s23.hh _ _ hacc, frD s23, rr.mono s23.gg, by omega, hy, hfl rfl⟩
    rcases compL_cons hr with ⟨z, zs, h1, h2, h3⟩ | ⟨h1, h2⟩
    · unfold fC at h1
      split at h1
      · rename_i env' hb
        split at h1
        · rename_i hcs
          split at h1
          · rename_i y' he
            cases h1
            exact main hb hcs (fun _ => ⟨z, zs, he, h3, h2⟩) (fun q => by cases q)
          · cases h1
        · cases h1
        · cases h1
      · cases h1
    · unfold fC at h1
      split at h1
      · rename_i env' hb
        split at h1
        · split at h1 <;> cases h1
        · rename_i hcs
          exact main hb hcs (fun q => by cases q) fun _ => h2
        · cases h1
      · cases h1
  · rintro H ⟨G, acc, done, rest, s, hacc, hg, rr, hl, hy, hr⟩
    rw [List.drop_length] at hr
    cases hr
    rw [List.append_nil] at hy
    subst hy
    exact k (.ref D) G H s (ResF.of (d := .lst _) ⟨acc, hacc, rr⟩ hg hD)
theorem ResF.updH {a : Addr} {o : HO} (hH : H a = some o) {o' : HO} {h0 : HO} (r : ResF K G' (upd H a h0) H' v d) : ResF K G' H (upd H' a o') v d := by
  have key : ∀ {p : Addr}, (upd H a h0) p = none → p ≠ a ∧ H p = none := by
    intro p hp
    have z : p ≠ a := fun z => by rw [z, upd_same] at hp; cases hp
    rw [upd_ne z] at hp
    exact ⟨z, hp⟩
  cases d with
  | lst ds =>
    obtain ⟨p, e, g, n, xs, h, rr⟩ := r
    obtain ⟨z, n'⟩ := key n
    exact ⟨p, e, g, n', xs, by rw [upd_ne z]; exact h, rr⟩
  | dic ds =>
    obtain ⟨p, e, g, n, xs, h, rr⟩ := r
    obtain ⟨z, n'⟩ := key n
    exact ⟨p, e, g, n', xs, by rw [upd_ne z]; exact h, rr⟩
  | _ => exact r
theorem Step.unlock {a : Addr} {od : Obj} {ks : List (Key × V)} (hH : H a = some (.dK ks)) (hM : a ∉ M) (s : Step (a :: M) G (upd H a (.frz od (.dK ks))) G' H') : Step M G H G' (upd H' a (.dK ks)) where
  hh := fun b o q => by
    by_cases z : b = a
    · subst z; rw [hH] at q; cases q; exact upd_same
    · rw [upd_ne z]; exact s.hh b o (by rw [upd_ne z]; exact q)
  gg := s.gg
  fr := fun b q => by
    rcases s.fr b q with z | z
    · exact .inl z
    · refine .inr ?_
      by_cases y : b = a
      · rw [y, upd_same] at z; cases z
      · rw [upd_ne y] at z; exact z
  fz := Fz.unlock s.fz (s.hh _ _ upd_same) hM
end
section
variable {X : Cx} {cls : List Cl} {elt tg' iter : PySem.Expr} {ifs : List PySem.Expr} {scope : Scope} {own : List (Str × Nat)} {pos : Pos} {tg : Tg} {ecs : PyI.Env → Option Bool} {eelt : EvD} {pr : Bool}
/-- what pe_lc, ps_setLc ask of the parts -/
structure LcParts (X : Cx) (cls : List Cl) (elt tg' : PySem.Expr) (ifs : List PySem.Expr) (scope : Scope) (tg : Tg) (own : List (Str × Nat)) (ecs : PyI.Env → Option Bool) (eelt : EvD) : Prop where
  calm : X.calm = true
  nd : X.N.Nodup
  ok : BlkOk X.N X.env.scope scope own
  own : own.map (·.2) = ixT tg
  g : ∀ (s : Shared) (H : Hp) (C : Addr) (cl : List (Str × Addr)) (fp : List Addr), PG (X.blk s H scope (compEnvC scope cl C X.env) fp) tg' (gOf X.K tg)
  t : ∀ (s : Shared) (H : Hp) (C : Addr) (cl : List (Str × Addr)) (fp : List Addr), PTs (X.blk s H scope (compEnvC scope cl C X.env) fp) ifs (tTs X.K (clsT cls tg) ecs)
  e : ∀ (s : Shared) (H : Hp) (C : Addr) (cl : List (Str × Addr)) (fp : List Addr), PE (X.blk s H scope (compEnvC scope cl C X.env) fp) elt (tG X.K (clsT cls tg) (PV X.K) eelt)
  f : tgF cls (ixT tg) = true
theorem imp_comp {src : PyI.Env → Option (List D)} (P : LcParts X cls elt tg' ifs scope tg own ecs eelt) (hpr : pr = true → isTupTg tg = true) (σ : L2.St) (H : Hp) (Q : VK) (h : tG X.K cls (PX X.K true) (evComp ecs eelt tg src) σ H Q) :
    tLc (tIt X.K pr true cls src) (gOf X.K tg) (tTs X.K (clsT cls tg) ecs) (tG X.K (clsT cls tg) (PV X.K) eelt) (own.map (·.2)) σ H Q := by
  obtain ⟨Γ, L, G, env, d, E, hv, k⟩ := h
  obtain ⟨xs, ys, h1, h2, h3, rfl⟩ := comp_inv hv
  rw [P.own]
  exact ⟨Γ, L, G, env, xs, E, h1, fun J G1 H1 s1 w => lc_use (E.step s1) w hpr P.f h3 h2 fun v G' H' s r => k v G' H' (s1.trans s) (ResF.back s1.hh r)⟩
theorem s_comp {src : PyI.Env → Option (List D)} (P : LcParts X cls elt tg' ifs scope tg own ecs eelt) (hpr : pr = true → isTupTg tg = true) (hi : PI X tg' iter (tIt X.K pr true cls src)) (hs : ∀ x, foldedSetIterable iter X.env x = pure x) :
    PE X (.ListComp elt [⟨tg', iter, ifs, 0⟩] scope pos) (tG X.K cls (PX X.K true) (evComp ecs eelt tg src)) :=
  PE.imp (pe_lc P.calm P.nd hi P.ok P.g P.t P.e hs) fun σ H Q h => imp_comp P hpr σ H Q h
theorem a_comp {src : PyI.Env → Option (List D)} {i : Nat} {y : Str} {py spos : Pos} (P : LcParts X cls elt tg' ifs scope tg own ecs eelt) (hpr : pr = true → isTupTg tg = true) (hi : PI X tg' iter (tIt X.K pr true cls src)) (hs : ∀ x, foldedSetIterable iter X.env x = pure x)
    (hy : X.N[i]? = some y) (hyl : X.env.scope.names.lookup y = some .local) (hsw : swapsWith (.ListComp elt [⟨tg', iter, ifs, 0⟩] scope pos) (some (.Name y py)) spos.line X.env = pure true) :
    PS X (.Assign [.Name y py] (.ListComp elt [⟨tg', iter, ifs, 0⟩] scope pos) spos) (tAsg (tG X.K cls (PX X.K true) (evComp ecs eelt tg src)) (gName i)) := by
  have h := ps_setLc P.calm P.nd hy hyl hsw hi P.ok P.g P.t P.e hs
  exact ⟨fun pins s σ H D I q => h.run pins s σ H D I (imp_comp P hpr σ H _ q)⟩
def evDic (io : ItOp) (i : Nat) : PyI.Env → Option (List D) := fun env => match look env i with
  | some (.dic kvs) => iterD io [.dic kvs]
  | _ => none
theorem dic_inv {io : ItOp} {i : Nat} {env : PyI.Env} {ds : List D} (h : evDic io i env = some ds) : ∃ kvs, look env i = some (.dic kvs) ∧ iterD io [.dic kvs] = some ds := by
  unfold evDic at h
  split at h
  · exact ⟨_, by assumption, h⟩
  · cases h
theorem imp_compD {io : ItOp} {i : Nat} (P : LcParts X cls elt tg' ifs scope tg own ecs eelt) (hpr : pr = true → isTupTg tg = true) (hc : clA cls i ≠ .O) (σ : L2.St) (H : Hp) (Q : VK) (h : tG X.K cls (PX X.K true) (evComp ecs eelt tg (evDic io i)) σ H Q) :
    tLc (tItD X.K pr true cls io i) (gOf X.K tg) (tTs X.K (clsT cls tg) ecs) (tG X.K (clsT cls tg) (PV X.K) eelt) (own.map (·.2)) σ H Q ∨ tLockE (tLc (tItD X.K pr true cls io i) (gOf X.K tg) (tTs X.K (clsT cls tg) ecs) (tG X.K (clsT cls tg) (PV X.K) eelt) (own.map (·.2))) σ H Q := by
  obtain ⟨Γ, L, G, env, d, E, hv, k⟩ := h
  obtain ⟨xs, ys, h1, h2, h3, rfl⟩ := comp_inv hv
  obtain ⟨kvs, hl, hit⟩ := dic_inv h1
  obtain ⟨a, ks, hσ, rk, hn, hH | ⟨o, hH⟩⟩ := dict_src E hl hc
  · refine .inr ⟨a, .dK ks, hH, trivial, fun od => ?_⟩
    rw [P.own]
    have E' := (E.lock (od := od) hH hn).pin upd_same
    have aM : a ∉ L ++ Γ.L0 := fun hL => by obtain ⟨o', kvs', q⟩ := E.fz.lk a hL; rw [hH] at q; cases q
    refine ⟨_, _, G, env, kvs, a, od, ks, xs, E', hl, hσ, List.mem_cons_self, rk, hit, fun J w => lc_use (Q := fun v H' => H' a = some (.frz od (.dK ks)) ∧ Q v (upd H' a (.dK ks))) E' w hpr P.f h3 h2 fun v G' H' s r => ⟨s.hh _ _ upd_same, ?_⟩⟩
    exact k v G' _ (Step.unlock hH aM s) (ResF.updH hH r)
  · refine .inl ?_
    rw [P.own]
    have E' := E.pin hH
    exact ⟨_, _, G, env, kvs, a, o, ks, xs, E', hl, hσ, List.mem_cons_self, rk, hit, fun J w => lc_use E' w hpr P.f h3 h2 fun v G' H' s r => k v G' H' s r⟩
theorem s_compD {io : ItOp} {i : Nat} (P : LcParts X cls elt tg' ifs scope tg own ecs eelt) (hpr : pr = true → isTupTg tg = true) (hi : PI X tg' iter (tItD X.K pr true cls io i)) (hs : ∀ x, foldedSetIterable iter X.env x = pure x) (hc : clA cls i ≠ .O) :
    PE X (.ListComp elt [⟨tg', iter, ifs, 0⟩] scope pos) (tG X.K cls (PX X.K true) (evComp ecs eelt tg (evDic io i))) := by
  have p0 : PE X (.ListComp elt [⟨tg', iter, ifs, 0⟩] scope pos) _ := pe_lc P.calm P.nd hi P.ok P.g P.t P.e hs
  exact PE.imp (PE.or p0 (pe_lock p0)) fun σ H Q h => imp_compD P hpr hc σ H Q h
theorem a_compD {io : ItOp} {j : Nat} {i : Nat} {y : Str} {py spos : Pos} (P : LcParts X cls elt tg' ifs scope tg own ecs eelt) (hpr : pr = true → isTupTg tg = true) (hi : PI X tg' iter (tItD X.K pr true cls io j)) (hs : ∀ x, foldedSetIterable iter X.env x = pure x) (hc : clA cls j ≠ .O)
    (hy : X.N[i]? = some y) (hyl : X.env.scope.names.lookup y = some .local) (hsw : swapsWith (.ListComp elt [⟨tg', iter, ifs, 0⟩] scope pos) (some (.Name y py)) spos.line X.env = pure true) :
    PS X (.Assign [.Name y py] (.ListComp elt [⟨tg', iter, ifs, 0⟩] scope pos) spos) (tAsg (tG X.K cls (PX X.K true) (evComp ecs eelt tg (evDic io j))) (gName i)) := by
  have h := ps_setLc P.calm P.nd hy hyl hsw hi P.ok P.g P.t P.e hs
  refine ⟨fun pins s σ H D I q => ?_⟩
  rcases imp_compD P hpr hc σ H _ q with q | q
  · exact h.run pins s σ H D I q
  · exact (ps_lock h).run pins s σ H D I q
end
end PyI
end

section
set_option maxRecDepth 100000
set_option maxHeartbeats 4000000
namespace PyI
open PySem PySem.Spec PyProof.Rows L2
structure CtxOk (S : Stat) (cf : CF) (X : Cx) : Prop where
  N : X.N = S.N
  nd : X.N.Nodup
  calm : X.calm = true
  un : X.A.units + 121 < cLine
  blt : ∀ x ∈ S.blt, X.mg x = none
  cst : ∀ p ∈ S.consts, ∃ v u, X.mg p.1 = some u ∧ RelV v u ∧ Rep X.K (fun _ => none) v p.2
  fns : ∀ f fd, S.fds[f]? = some fd → fd.cls.length = fd.ps.length ∧ FnS X cf f fd
theorem CtxOk.blk {S : Stat} {cf : CF} {X : Cx} (C : CtxOk S cf X) (s : Shared) (H : Hp) (scope : Scope) (env : PySem.Env) (fp : List Addr) : CtxOk S cf (X.blk s H scope env fp) where
  N := C.N
  nd := C.nd
  calm := C.calm
  un := C.un
  blt := C.blt
  cst := C.cst
  fns := fun f fd h => ⟨(C.fns f fd h).1, ⟨(C.fns f fd h).2.ex, (C.fns f fd h).2.dfl⟩⟩
abbrev evE (cf : CF) (e : E) : EvD := fun env => evalE cf env e
structure Snd (fds : List FDef) (cf : CF) (cls : List Cl) (X : Cx) (e : E) (a : PySem.Expr) : Prop where
  ns : notStar a = true
  R : PE X a (tG X.K cls (PR X.K) (evE cf e))
  V : vpos cls e = true → PE X a (tG X.K cls (PV X.K) (evE cf e))
  F : frE fds e = true → PE X a (tG X.K cls (PX X.K true) (evE cf e))
  T : isIfE a = false → PT X a (tT X.K cls (evE cf e))
  W : ∀ op l p, a = .BoolOp op l p → PW X a (tT X.K cls (evE cf e))
  A : isLc a = true → ∀ (i : Nat) (y : Str) (py spos : Pos), X.N[i]? = some y → X.env.scope.names.lookup y = some .local → swapsWith a (some (.Name y py)) spos.line X.env = pure true → PS X (.Assign [.Name y py] a spos) (tAsg (tG X.K cls (PX X.K true) (evE cf e)) (gName i))
section
variable {fds : List FDef} {cf : CF} {cls : List Cl} {X : Cx} {e : E} {a : PySem.Expr}
theorem tR_T (h : PE X a (tG X.K cls (PR X.K) (evE cf e))) (he : ∀ whole, isTrue a X.env whole = (do let v ← whole; standAt a.pos; holding [v] (truthy v))) : PT X a (tT X.K cls (evE cf e)) :=
  PT.imp (pt_val h he) fun σ H Q ⟨Γ, L, G, env, k, E, hl, q⟩ => ⟨Γ, L, G, env, .bl k, E, hl, fun v G' H' s r => by
    have r' : v = .bl k := r
    exact ⟨k, r', q G' H' s⟩⟩
theorem Snd.of {bb : Bool} (h : PE X a (tG X.K cls (PX X.K bb) (evE cf e))) (ns : notStar a = true) (hb : frE fds e = true → bb = true ∨ ∀ env d, evE cf e env = some d → isMut d = false) (ht : ∀ whole, isTrue a X.env whole = (do let v ← whole; standAt a.pos; holding [v] (truthy v))) (hw : ∀ op l p, a ≠ .BoolOp op l p) (hlc : isLc a = false := by rfl) : Snd fds cf cls X e a where
  ns := ns
  R := toR (toV h)
  V := fun _ => toV h
  F := fun q => by
    rcases hb q with rfl | z
    · exact h
    · exact PE.imp (toV h) fun σ H Q ⟨Γ, L, G, env, d, E, hl, k⟩ => ⟨Γ, L, G, env, d, E, hl, fun v G' H' s r => k v G' H' s (Rep.im (z env d hl) r)⟩
  T := fun _ => tR_T (toR (toV h)) ht
  W := fun op l p q => absurd q (hw op l p)
  A := fun q => by rw [hlc] at q; cases q
/-- the same with an own test -/
theorem Snd.ofT {bb : Bool} (h : PE X a (tG X.K cls (PX X.K bb) (evE cf e))) (ns : notStar a = true) (hb : frE fds e = true → bb = true ∨ ∀ env d, evE cf e env = some d → isMut d = false) (ht : isIfE a = false → PT X a (tT X.K cls (evE cf e))) (hw : ∀ op l p, a = .BoolOp op l p → PW X a (tT X.K cls (evE cf e))) (hlc : isLc a = false := by rfl) : Snd fds cf cls X e a where
  ns := ns
  R := toR (toV h)
  V := fun _ => toV h
  F := fun q => by
    rcases hb q with rfl | z
    · exact h
    · exact PE.imp (toV h) fun σ H Q ⟨Γ, L, G, env, d, E, hl, k⟩ => ⟨Γ, L, G, env, d, E, hl, fun v G' H' s r => k v G' H' s (Rep.im (z env d hl) r)⟩
  T := ht
  W := hw
  A := fun q => by rw [hlc] at q; cases q
/-! lists of arguments -/
inductive SndL (fds : List FDef) (cf : CF) (cls : List Cl) (X : Cx) : List E → List PySem.Expr → Prop
  | nil : SndL fds cf cls X [] []
  | cons {e : E} {a : PySem.Expr} {es : List E} {as : List PySem.Expr} : Snd fds cf cls X e a → SndL fds cf cls X es as → SndL fds cf cls X (e :: es) (a :: as)
theorem star_cons (as : List PySem.Expr) (env : PySem.Env) (h : notStar a = true) : starEach (a :: as) env = (false, eval a env) :: starEach as env := by cases a <;> first | rfl | cases h
theorem SndL.ns {es : List E} {as : List PySem.Expr} (h : SndL fds cf cls X es as) : ∀ y ∈ as, notStar y = true := by
  induction h with
  | nil => intro y q; cases q
  | cons s _ ih =>
    intro y q
    rcases List.mem_cons.mp q with rfl | q
    · exact s.ns
    · exact ih y q
theorem SndL.len {es : List E} {as : List PySem.Expr} (h : SndL fds cf cls X es as) : es.length = as.length := by
  induction h with
  | nil => rfl
  | cons s _ ih => simp [ih]
theorem SndL.all {es : List E} {as : List PySem.Expr} (h : SndL fds cf cls X es as) (hv : vposs cls es = true) : PA X as (tAs X.K cls (List.replicate es.length true) fun env => evalEs cf env es) := by
  induction h with
  | nil => exact s_nil
  | @cons e a es as s t ih =>
    have hv' : (vpos cls e && vposs cls es) = true := hv
    rw [Bool.and_eq_true] at hv'
    exact s_consV (s.V hv'.1) (ih hv'.2) (star_cons as X.env s.ns)
theorem SndL.pos {es : List E} {as : List PySem.Expr} (h : SndL fds cf cls X es as) : ∀ {cs : List Cl}, posOk cls cs es = true → PA X as (tAs X.K cls (posL cs) fun env => evalEs cf env es) := by
  induction h with
  | nil => intro cs _; exact s_nil
  | @cons e a es as s t ih =>
    intro cs hp
    cases cs with
    | nil => cases hp
    | cons c cs =>
      have hp' : (clOk cls c e && posOk cls cs es) = true := hp
      rw [Bool.and_eq_true] at hp'
      cases c with
      | F => exact s_consV (s.V hp'.1) (ih hp'.2) (star_cons as X.env s.ns)
      | B => exact s_consR s.R (ih hp'.2) (star_cons as X.env s.ns)
      | O => exact s_consR s.R (ih hp'.2) (star_cons as X.env s.ns)
theorem evalEs_len : ∀ {es : List E} {env : PyI.Env} {ds : List D}, evalEs cf env es = some ds → ds.length = es.length
  | [], _, _, h => by cases h; rfl
  | e :: es, env, ds, h => by
    obtain ⟨x, xs, h1, h2, rfl⟩ := cons_inv (ea := evE cf e) (es := fun env => evalEs cf env es) h
    rw [List.length_cons, List.length_cons, evalEs_len h2]
end
/-! names -/
section
variable {S : Stat} {cf : CF} {X : Cx} {x y : Str} {i : Nat}
theorem beq_false_of {a b : Str} (h : (!(a == b)) = true) : (a == b) = false := by simpa using h
theorem vis_of {sc : Scope} (h : visB sc x = true) : Vis sc x := by
  unfold visB at h
  split at h
  · exact .inl (by assumption)
  · exact .inr (.inl (by assumption))
  · exact .inr (.inr (by assumption))
  · cases h
theorem loc_of {sc : Scope} (h : locB sc x = true) : Loc sc x := by
  unfold locB at h
  split at h
  · exact .inl (by assumption)
  · exact .inr (by assumption)
  · cases h
theorem gl_of (h : glB X.env.scope x = true) : Gl X x := by
  unfold glB at h
  split at h
  · assumption
  · cases h
theorem nm_of (C : CtxOk S cf X) (h : nmB S.N X.env.scope i x = true) : X.N[i]? = some x ∧ Vis X.env.scope x ∧ (x == ("__debug__" : Str)) = false ∧ (x == ("__classdict__" : Str)) = false := by
  unfold nmB at h
  simp only [Bool.and_eq_true, decide_eq_true_eq] at h
  exact ⟨by rw [C.N]; exact h.1.1.1, vis_of h.1.1.2, beq_false_of h.1.2, beq_false_of h.2⟩
theorem bl_of (C : CtxOk S cf X) (h : blB S X.env.scope x y = true) : x = y ∧ Gl X x ∧ X.mg x = none ∧ (x == ("__debug__" : Str)) = false := by
  unfold blB at h
  simp only [Bool.and_eq_true, decide_eq_true_eq] at h
  exact ⟨h.1.1.1, gl_of h.1.1.2, C.blt x h.1.2, beq_false_of h.2⟩
theorem behind_of {b : PySem.Expr} {op : CmpOp} (h : notSet b = true) : behindInMarks op b = false := by cases b <;> first | rfl | cases h
theorem last_of {b c : PySem.Expr} {op op' : CmpOp} (h : notSet c = true) : lastMarks [op, op'] [b, c] = false := behind_of h
theorem folded_of {b : PySem.Expr} {env : PySem.Env} (h : notSet b = true) : ∀ v, foldedSetIterable b env v = pure v := by intro v; cases b <;> first | rfl | cases h
end
section
variable {fds : List FDef} {cf : CF} {cls : List Cl} {X : Cx}
theorem opB_of (hu : X.A.units + 121 < cLine) {o : Op2} {op : Operator} (h : opM o op = true) : OpR X (binaryOp op) (rS X.K o) := by
  cases o with
  | add => cases op with
    | Add => exact opS_add
    | _ => cases h
  | sub => cases op with
    | Sub => exact opS_sub
    | _ => cases h
  | mul => cases op with
    | Mult => exact opS_mul
    | _ => cases h
  | fdiv => cases op with
    | FloorDiv => exact opS_fdiv
    | _ => cases h
  | mod => cases op with
    | Mod => exact opS_mod
    | _ => cases h
  | pow => cases op with
    | Pow => exact opS_pow
    | _ => cases h
  | band => cases op with
    | BitAnd => exact opS_band
    | _ => cases h
  | shr => cases op with
    | RShift => exact opS_shr
    | _ => cases h
  | _ => cases op <;> cases h
theorem opC_of (hu : X.A.units + 121 < cLine) {o : Op2} {op : CmpOp} (h : cmM o op = true) : OpR X (compareOp op) (rS X.K o) ∧ freshOp2 o = false := by
  have hu' : X.A.units + 120 < cLine := by omega
  cases o with
  | eq => cases op with
    | Eq => exact ⟨opS_eq hu', rfl⟩
    | _ => cases h
  | ne => cases op with
    | NotEq => exact ⟨opS_ne hu', rfl⟩
    | _ => cases h
  | lt => cases op with
    | Lt => exact ⟨opS_lt, rfl⟩
    | _ => cases h
  | le => cases op with
    | LtE => exact ⟨opS_le, rfl⟩
    | _ => cases h
  | gt => cases op with
    | Gt => exact ⟨opS_gt, rfl⟩
    | _ => cases h
  | ge => cases op with
    | GtE => exact ⟨opS_ge, rfl⟩
    | _ => cases h
  | isin => cases op with
    | In => exact ⟨opS_in hu', rfl⟩
    | _ => cases h
  | notin => cases op with
    | NotIn => exact ⟨opS_notin hu', rfl⟩
    | _ => cases h
  | is_ => cases op with
    | Is => exact ⟨opS_is, rfl⟩
    | _ => cases h
  | isnot => cases op with
    | IsNot => exact ⟨opS_isnot, rfl⟩
    | _ => cases h
  | _ => cases op <;> cases h
def cmO : Op2 → Bool
  | .eq => true
  | .ne => true
  | .lt => true
  | .le => true
  | .gt => true
  | .ge => true
  | .isin => true
  | .notin => true
  | .is_ => true
  | .isnot => true
  | _ => false
theorem cmO_of {o : Op2} {op : CmpOp} (h : cmM o op = true) : cmO o = true := by cases o <;> first | rfl | (cases op <;> cases h)
theorem map_bl {b : Option Bool} {f : Bool → Bool} {d : D} (h : b.map (fun k => D.bl (f k)) = some d) : isMut d = false := by
  cases b with
  | none => cases h
  | some k => cases h; rfl
theorem cmp_bool {o : Op2} {op : CmpOp} (h : cmM o op = true) {x y d : D} (hs : sem2 o x y = some d) : isMut d = false := by
  have ho := cmO_of h
  clear h
  cases o with
  | eq => exact map_bl (b := eqSem x y) (f := id) hs
  | ne => exact map_bl (b := eqSem x y) (f := fun k => !k) hs
  | isin => exact map_bl (b := inSem x y) (f := id) hs
  | notin => exact map_bl (b := inSem x y) (f := fun k => !k) hs
  | is_ => exact map_bl (b := isSem x y) (f := id) hs
  | isnot => exact map_bl (b := isSem x y) (f := fun k => !k) hs
  | lt => cases x <;> cases y <;> first | (cases hs; done) | (cases hs; rfl)
  | le => cases x <;> cases y <;> first | (cases hs; done) | (cases hs; rfl)
  | gt => cases x <;> cases y <;> first | (cases hs; done) | (cases hs; rfl)
  | ge => cases x <;> cases y <;> first | (cases hs; done) | (cases hs; rfl)
  | _ => cases ho
theorem s_neg {a : PySem.Expr} {ea : EvD} {pos : Pos} (ha : PE X a (tG X.K cls (PR X.K) ea)) : PE X (.UnaryOp .USub a pos) (tG X.K cls (PV X.K) (evOp1 .neg ea)) :=
  PE.imp (pe_un un_neg ha) fun σ H Q ⟨Γ, L, G, env, d, E, hl, k⟩ => by
    obtain ⟨x, hx, hs⟩ := op1_inv hl
    cases x with
    | int i => cases hs; exact ⟨Γ, L, G, env, _, E, hx, fun v G' H' s r => ⟨i, r, k _ G' H' s (.int _)⟩⟩
    | _ => cases hs
theorem s_dnew {pos : Pos} : PE X (.Dict [] [] pos) (tG X.K cls (PX X.K true) fun _ => some (.dic [])) :=
  PE.imp pe_dnewK fun σ H Q ⟨Γ, L, G, env, d, E, hl, k⟩ => by
    cases hl
    exact fun p hp => new_dic E.fz .nil (fun v G' H' s r => k v G' H' s r) hp
theorem boot_len : bootBuiltins "len" = some (.builtin "len") := by decide +kernel
theorem boot_all_ : bootBuiltins "all" = some (.builtin "all") := by decide +kernel
theorem boot_any_ : bootBuiltins "any" = some (.builtin "any") := by decide +kernel
theorem boot_sum_ : bootBuiltins "sum" = some (.builtin "sum") := by decide +kernel
theorem boot_sorted_ : bootBuiltins "sorted" = some (.builtin "sorted") := by decide +kernel
theorem boot_tuple_ : bootBuiltins "tuple" = some (.type "tuple") := by decide +kernel
theorem boot_list_ : bootBuiltins "list" = some (.type "list") := by decide +kernel
theorem boot_dict_ : bootBuiltins "dict" = some (.type "dict") := by decide +kernel
theorem boot_int_ : bootBuiltins "int" = some (.type "int") := by decide +kernel
theorem boot_str_ : bootBuiltins "str" = some (.type "str") := by decide +kernel
theorem boot_max_ : bootBuiltins "max" = some (.builtin "max") := by decide +kernel
theorem boot_min_ : bootBuiltins "min" = some (.builtin "min") := by decide +kernel
theorem call1_of (hu : X.A.units + 121 < cLine) (hc : X.calm = true) {o : Op1} {x y : Str} {a : PySem.Expr} {ea : EvD} {p pos : Pos} (hx : nm1 o = some y) (hxy : x = y) (hg : Gl X x) (hm : X.mg x = none) (h2 : (x == ("__debug__" : Str)) = false) (ha : PE X a (tG X.K cls (PR X.K) ea)) (hn : notStar a = true) :
    PE X (.Call (.Name x p) [a] [] pos) (tG X.K cls (PX X.K (freshOp1 o)) (evOp1 o ea)) := by
  have hu' : X.A.units + 120 < cLine := by omega
  subst hxy
  cases o with
  | neg => cases hx
  | not_ => cases hx
  | len => cases hx; exact s_call1B c_len hg hm boot_len ha hn (by decide) h2
  | all_ => cases hx; exact s_call1B (c_all hc) hg hm boot_all_ ha hn (by decide) h2
  | any_ => cases hx; exact s_call1B (c_any hc) hg hm boot_any_ ha hn (by decide) h2
  | sum_ => cases hx; exact s_call1B (c_sum hc) hg hm boot_sum_ ha hn (by decide) h2
  | sorted_ => cases hx; exact s_call1B (c_sortedL hu' hc) hg hm boot_sorted_ ha hn (by decide) h2
  | sitems => cases hx
  | srev => cases hx
  | ssort => cases hx
  | tuple_ => cases hx; exact s_call1T c_tuple hg hm boot_tuple_ ha hn (by decide) h2
  | list_ => cases hx; exact s_call1T (c_list hc) hg hm boot_list_ ha hn (by decide) h2
  | dict_ => cases hx; exact s_call1T (c_dict hc) hg hm boot_dict_ ha hn (by decide) h2
  | int_ => cases hx; exact s_call1T c_int hg hm boot_int_ ha hn (by decide) h2
  | str_ => cases hx; exact s_call1T c_str hg hm boot_str_ ha hn (by decide) h2
  | max_ => cases hx; exact s_call1B (c_max hc) hg hm boot_max_ ha hn (by decide) h2
  | min_ => cases hx; exact s_call1B (c_min hc) hg hm boot_min_ ha hn (by decide) h2
theorem call2_of (hc : X.calm = true) {o : Op2} {x y : Str} {a b : PySem.Expr} {ea eb : EvD} {p pos : Pos} (hx : nm2 o = some y) (hxy : x = y) (hg : Gl X x) (hm : X.mg x = none) (h2 : (x == ("__debug__" : Str)) = false) (ha : PE X a (tG X.K cls (PR X.K) ea)) (hn : notStar a = true)
    (hb : PE X b (tG X.K cls (PR X.K) eb)) (hn' : notStar b = true) : PE X (.Call (.Name x p) [a, b] [] pos) (tG X.K cls (PV X.K) (ev2 o ea eb)) := by
  subst hxy
  cases o with
  | max2 => cases hx; exact s_call2B (c_max2 hc) hg hm boot_max_ ha hn hb hn' (by decide) h2
  | min2 => cases hx; exact s_call2B (c_min2 hc) hg hm boot_min_ ha hn hb hn' (by decide) h2
  | _ => cases hx
def evIte (ec ea eb : EvD) : EvD := fun env => match ec env with
  | some (.bl true) => ea env
  | some (.bl false) => eb env
  | _ => none
theorem s_ite {c a b : PySem.Expr} {ec ea eb : EvD} {pos : Pos} {bb : Bool} (hc : PT X c (tT X.K cls ec)) (ha : PE X a (tG X.K cls (PX X.K bb) ea)) (hb : PE X b (tG X.K cls (PX X.K bb) eb)) : PE X (.IfExp c a b pos) (tG X.K cls (PX X.K bb) (evIte ec ea eb)) :=
  PE.imp (pe_ifExp hc ha hb) fun σ H Q ⟨Γ, L, G, env, d, E, hl, k⟩ => by
    unfold evIte at hl
    split at hl
    · rename_i h
      exact ⟨Γ, L, G, env, true, E, h, fun G1 H1 s1 => ⟨Γ, L, G1, env, d, E.step s1, hl, fun v G' H' s r => k v G' H' (s1.trans s) (PostB.back s1.hh r)⟩⟩
    · rename_i h
      exact ⟨Γ, L, G, env, false, E, h, fun G1 H1 s1 => ⟨Γ, L, G1, env, d, E.step s1, hl, fun v G' H' s r => k v G' H' (s1.trans s) (PostB.back s1.hh r)⟩⟩
    · cases hl
/-! targets -/
theorem pgs_of {N : List Str} {sc : Scope} (hN : X.N = N) (nd : X.N.Nodup) (hl : ∀ y k, sc.names.lookup y = some k → k ≠ .free → X.env.scope.names.lookup y = some k) (hf : ∀ y, sc.names.lookup y = some .cell → X.fn y = true) :
    ∀ {is : List Nat} {es : List PySem.Expr}, tgNms N sc is es = true → PGs X es (gNms is) ∧ (assignEach es X.env).length = is.length ∧ (assignEach es X.env).findIdx? (·.1) = none
  | [], [], _ => ⟨pgs_nil, rfl, rfl⟩
  | [], _ :: _, h => by cases h
  | _ :: _, [], h => by cases h
  | i :: is, e :: es, h => by
    have h' : (tgNm N sc i e && tgNms N sc is es) = true := h
    rw [Bool.and_eq_true] at h'
    obtain ⟨q1, q2, q3⟩ := pgs_of hN nd hl hf h'.2
    cases e with
    | Name x p =>
      have h1 : (decide (N[i]? = some x) && locB sc x) = true := h'.1
      rw [Bool.and_eq_true, decide_eq_true_eq] at h1
      have lc : Loc X.env.scope x ∧ (X.fn x = true ∨ X.env.scope.names.lookup x = some .local) := by
        rcases loc_of h1.2 with z | z
        · have := hl x _ z (by decide); exact ⟨.inl this, .inr this⟩
        · exact ⟨.inr (hl x _ z (by decide)), .inl (hf x z)⟩
      refine ⟨pgs_cons (pg_name nd (by rw [hN]; exact h1.1) lc.1 lc.2) q1 rfl, ?_, ?_⟩
      · show (_ :: assignEach es X.env).length = _
        rw [List.length_cons, q2]; rfl
      · have : assignEach (.Name x p :: es) X.env = (false, assign (.Name x p) X.env) :: assignEach es X.env := rfl
        rw [this, List.findIdx?_cons, q3]; rfl
    | _ => cases h'.1
theorem pg_of {N : List Str} {sc : Scope} (hN : X.N = N) (nd : X.N.Nodup) (hc : X.calm = true) (hl : ∀ y k, sc.names.lookup y = some k → k ≠ .free → X.env.scope.names.lookup y = some k) (hf : ∀ y, sc.names.lookup y = some .cell → X.fn y = true) {tg : Tg} {e : PySem.Expr} (h : tgB N sc tg e = true) : PG X e (gOf X.K tg) := by
  cases tg with
  | name i =>
    cases e with
    | Name x p =>
      have h1 : (decide (N[i]? = some x) && locB sc x) = true := h
      rw [Bool.and_eq_true, decide_eq_true_eq] at h1
      have lc : Loc X.env.scope x ∧ (X.fn x = true ∨ X.env.scope.names.lookup x = some .local) := by
        rcases loc_of h1.2 with z | z
        · have := hl x _ z (by decide); exact ⟨.inl this, .inr this⟩
        · exact ⟨.inr (hl x _ z (by decide)), .inl (hf x z)⟩
      exact pg_name nd (by rw [hN]; exact h1.1) lc.1 lc.2
    | _ => cases h
  | tup is =>
    cases e with
    | Tuple es k p =>
      obtain ⟨q1, q2, q3⟩ := pgs_of hN nd hl hf (show tgNms N sc is es = true from h)
      exact pg_tup hc q1 q2 q3
    | _ => cases h
theorem relS_keep {scope sc : Scope} {y : Str} {k : NameKind} (h : scope.names.lookup y = some k) (hk : k ≠ .free) : (relS scope sc).names.lookup y = some k := lookup_relS_keep hk h
end
end PyI
end

section
set_option maxRecDepth 100000
set_option maxHeartbeats 4000000
namespace PyI
open PySem PySem.Spec PyProof.Rows L2 L2.DX
section
variable {X : Cx}
def rItemsK : V → Hp → VK → Prop := fun x H Q => ∃ (a : Addr) (kvs : List (Key × V)), x = .ref a ∧ Rd H a (.dK kvs) ∧ ∀ p, H p = none → Q (.ref p) (upd H p (itemsO p a))
theorem pe_ditems {o : PySem.Expr} {to : TE} {apos cpos : Pos} (ho : PE X o to) (hbase : attributeBase o "items" X.env (eval o X.env) = eval o X.env) (hline : (apos.endLine == cpos.line) = true) :
    PE X (.Call (.Attribute o "items" apos) [] [] cpos) (fun σ H Q => to σ H fun x H1 => rItemsK x H1 Q) := by
  refine ⟨fun pins s σ H Q I h => ?_⟩
  refine wpAny_Call_method0_late hbase hline (thn (ho.run pins s σ H _ I h) fun v s1 ⟨x, H1, I1, r1, q1⟩ => ?_)
  obtain ⟨a, kvs, rfl, ha, q⟩ := q1
  cases r1
  obtain ⟨t1, t2, t3⟩ := isD_at I1 (.inl ⟨kvs, ha⟩)
  obtain ⟨z, lo, vs, rel, dd⟩ := dk_rd I1.hok ha
  obtain ⟨ob, es, ep, g1, g2, g3, _⟩ := id dd
  refine ⟨"dict", "dict.items", PySem.F.plainAttrs_dict, PySem.F.slot_dict_items, PySem.F.type_dict_items, t1, t2, Calls.callWith_builtin rfl (PySem.evalArgs_none ?_)⟩
  refine DT.callItems (es := es) (ep := ep) lo ⟨ob, g1, g2, g3⟩ ?_
  have hf : H1 s1.heap.objs.size = none := I1.hok.fresh (Nat.le_refl _)
  exact ⟨.ref s1.heap.objs.size, upd H1 s1.heap.objs.size (itemsO s1.heap.objs.size a), I1.laid (t' := s1.toks) (fun b u e => Heap.get?_push_of_some _ e) (Nat.le_refl _) (itemsO_ok (Heap.get?_push_size _ rfl)), rfl, q _ hf⟩
structure Row (K : PySem.W.Frag) (G : Hp) (h' : Heap) (lo : Addr) (z : Addr × List Value × List V × List D) : Prop where
  lo : lo ≤ z.1
  at_ : h'.get? z.1 = some (tupObj z.2.1)
  vs : Vals z.2.2.1 z.2.1
  sz : z.2.2.1.length ≤ sizeLine
  rep : RepL K G z.2.2.1 z.2.2.2
theorem Row.mono {K : PySem.W.Frag} {G G' : Hp} {h' : Heap} {lo : Addr} {z : Addr × List Value × List V × List D} (e : Ex G G') (r : Row K G h' lo z) : Row K G' h' lo z := ⟨r.lo, r.at_, r.vs, r.sz, r.rep.mono e⟩
theorem takeF {pins : List (Addr × Obj)} {σ : L2.St} {H : Hp} {s : Shared} {h' : Heap} {tk : Nat} {L : List Addr} {G : Hp} (I0 : Inv X pins σ H s) (fz : Fz L G H) : ∀ (zs : List (Addr × List Value × List V × List D)) (G1 H1 : Hp), Inv X pins σ H1 { s with heap := h', toks := tk } → Step L G H G1 H1 → (zs.map (·.1)).Nodup →
    (∀ z ∈ zs, Row X.K G1 h' s.heap.objs.size z) → (∀ z ∈ zs, H1 z.1 = none) → ∃ G2 H2, Inv X pins σ H2 { s with heap := h', toks := tk } ∧ Step L G H G2 H2 ∧ Ex G1 G2 ∧ RepL X.K G2 (zs.map fun z => V.ref z.1) (zs.map fun z => D.tup z.2.2.2)
  | [], G1, H1, I1, s1, _, _, _ => ⟨G1, H1, I1, s1, Ex.refl _, .nil⟩
  | z :: zs, G1, H1, I1, s1, hn, hr, hh => by
    have r := hr z List.mem_cons_self
    have h0 := hh z List.mem_cons_self
    rw [List.map_cons, List.nodup_cons] at hn
    have I2 : Inv X pins σ (upd H1 z.1 (.frz (tupObj z.2.1) (.tup z.2.2.1))) { s with heap := h', toks := tk } := I1.take (h' := h') (t' := tk) (fun b ob _ e => e) (I0.fpOk r.lo h0) ⟨r.at_, r.sz, z.2.1, r.vs, ⟨_, r.at_, rfl, 0, rfl⟩⟩
    have s2 : Step L G H G1 (upd H1 z.1 (.frz (tupObj z.2.1) (.tup z.2.2.1))) := s1.trans (Step.new s1.fz h0)
    have g0 : G1 z.1 = none := s1.fz.ne h0
    have s3 := s2.frz fz (fresh_back s1.hh h0) upd_same g0
    obtain ⟨G2, H2, I3, s4, x, rep⟩ := takeF I0 fz zs _ _ I2 s3 hn.2 (fun y hy => (hr y (List.mem_cons_of_mem _ hy)).mono (Ex.new g0)) (fun y hy => by
      rw [upd_ne (fun e => hn.1 (by rw [← e]; exact List.mem_map_of_mem hy))]
      exact hh y (List.mem_cons_of_mem _ hy))
    refine ⟨G2, H2, I3, s4, (Ex.new g0).trans x, ?_⟩
    rw [List.map_cons, List.map_cons]
    exact .cons (.tup (.inl ⟨z.2.1, x _ _ upd_same⟩) (r.rep.mono ((Ex.new g0).trans x))) rep
theorem rows_of {G : Hp} {h' : Heap} {lo : Addr} : ∀ {es : List (Key × D)} {ks : List (Key × V)} {vs : List (Key × Value)} {as : List Addr}, RepK X.K G ks es → KV ks vs → as.length = vs.length → (∀ a ∈ as, lo ≤ a) →
    (∀ (j : Nat) (a : Addr), as[j]? = some a → ∃ key k x, vs[j]? = some (k, x) ∧ (mixKind X.prog X.w).is k key = true ∧ h'.get? a = some { cls := .type "tuple", data := .seq #[key, x] }) →
    ∃ zs : List (Addr × List Value × List V × List D), zs.map (·.1) = as ∧ zs.map (fun z => D.tup z.2.2.2) = es.map (fun kv => D.tup [ofKey kv.1, kv.2]) ∧ ∀ z ∈ zs, Row X.K G h' lo z
  | [], _, _, as, .nil, .nil, hl, _, _ => ⟨[], by cases as with | nil => rfl | cons _ _ => simp at hl, rfl, by simp⟩
  | _ :: es, _, _, as, .cons (k := k0) (v := v0) (d := d0) r rr, .cons p q, hl, hlo, hp => by
    cases as with
    | nil => simp at hl
    | cons a as =>
      obtain ⟨zs, e1, e2, e3⟩ := rows_of rr q (as := as) (by simpa using hl) (fun b hb => hlo b (List.mem_cons_of_mem _ hb)) fun j b hb => by
        obtain ⟨key, k, x, h1, h2, h3⟩ := hp (j + 1) b (by simpa using hb)
        exact ⟨key, k, x, by simpa using h1, h2, h3⟩
      obtain ⟨key, k, x, h1, h2, h3⟩ := hp 0 a rfl
      simp at h1
      obtain ⟨p1, p2⟩ := p
      rw [h1] at p1 p2
      simp only [] at p1 p2
      subst p1
      refine ⟨(a, [key, x], [kV k0, v0], [ofKey k0, d0]) :: zs, by rw [List.map_cons, e1], by rw [List.map_cons, List.map_cons, e2], fun z hz => ?_⟩
      rcases List.mem_cons.mp hz with rfl | hz
      · exact ⟨hlo _ List.mem_cons_self, h3, .cons (relV_key h2) (.cons p2 .nil), by simp [sizeLine_eq], .cons (Rep.ofKey _) (.cons r .nil)⟩
      · exact e3 z hz
theorem refs_vals : ∀ (as : List Addr), Vals (as.map V.ref) (as.map Value.ref)
  | [] => .nil
  | a :: as => .cons rfl (refs_vals as)
theorem c_sitems (hu : X.A.units + 120 < cLine) (hc : X.calm = true) : CallR X (.builtin "sorted") (fun vs H Q => ∃ L G p a es ds, vs = [.ref p] ∧ Fz L G H ∧ H p = some (itemsO p a) ∧ RepT X.K G H (.ref a) (.dic es) ∧
    sortD (es.map fun kv => .tup [ofKey kv.1, kv.2]) = some ds ∧ ∀ v G' H', Step L G H G' H' → ResF X.K G' H H' v (.lst ds) → Q v H') := by
  intro pins s σ H vs us Q I r h
  obtain ⟨L, G, p, a, es, ds, rfl, fz, hp, tx, hs, k⟩ := h
  obtain ⟨ok, rfl⟩ := ifb (show (if sortOk (es.map fun kv => D.tup [ofKey kv.1, kv.2]) then some ((es.map fun kv => D.tup [ofKey kv.1, kv.2]).mergeSort (PySem.W.dataLe false toPy)) else none) = some ds from hs)
  obtain ⟨a', ks, e, h, rr⟩ := tx
  cases e
  obtain ⟨u, rfl, rx⟩ := vals1 r
  cases rx
  have view : s.heap.IsItemsView p a := (show ObjOk X.prog X.w H s.heap p (itemsO p a) from I.hok p _ hp).1
  obtain ⟨z, lo, vs, rel, dd⟩ := dk_rd I.hok h
  obtain ⟨ep, hat⟩ := dd.dictAt
  refine sorted_any hu ok (by rw [List.length_map, ← rr.length]; exact z) (fun R E hR => ?_) k
  refine PySem.W.kdx_collect (knd := mixKind X.prog X.w) (kvs := vs) (ep := ep) (I.ok.hd hc) view hat (by rw [← rel.length]; exact z) fun h' tk as hk hl hg => ?_
  obtain ⟨zs, e1, e2, e3⟩ := rows_of rr rel hl (fun b hb => Nat.le_of_lt (hg.above b hb)) hg.pairs
  have nd : (zs.map (·.1)).Nodup := by rw [e1]; exact List.Pairwise.imp (fun h => Nat.ne_of_lt h) hg.rise
  have I1 : Inv X pins σ H { s with heap := h', toks := tk } := I.kept (t' := tk) hk
  obtain ⟨G2, H2, I2, st, _, rep⟩ := takeF I fz zs G H I1 (Step.refl fz) nd e3 fun y hy => I.hok.fresh (e3 y hy).lo
  have ea : zs.map (fun z => V.ref z.1) = as.map V.ref := by rw [← e1, List.map_map]; rfl
  rw [e2, ea] at rep
  exact hR _ _ _ G2 H2 I2 (refs_vals as) rep st
variable {cls : List Cl} {a b : PySem.Expr} {ea eb : EvD} {pos p : Pos}
theorem s_sitems {apos cpos : Pos} (hu : X.A.units + 121 < cLine) (hc : X.calm = true) (hg : Gl X "sorted") (hm : X.mg "sorted" = none) (ha : PE X a (tG X.K cls (PR X.K) ea)) (hab : abB a = true) (hline : (apos.endLine == cpos.line) = true) :
    PE X (.Call (.Name "sorted" p) [.Call (.Attribute a "items" apos) [] [] cpos] [] pos) (tG X.K cls (PX X.K true) (evOp1 .sitems ea)) := by
  refine PE.imp (pe_callB (c_sitems (by omega) hc) hg hm boot_sorted_ (pa_cons (pe_ditems ha (abB_ok hab) hline) pa_nil)) fun σ H Q ⟨Γ, L, G, env, d, E, hl, k⟩ => ?_
  obtain ⟨x, hx, hs⟩ := op1_inv hl
  cases x with
  | dic es =>
    obtain ⟨ds, hd, rfl⟩ := map_some (show (sortD (es.map fun kv => D.tup [ofKey kv.1, kv.2])).map D.lst = some d from hs)
    refine ⟨Γ, L, G, env, _, E, hx, fun v G1 H1 s1 r1 => ?_⟩
    have r1' := r1
    obtain ⟨a', ks, rfl, h, rr⟩ := r1
    refine ⟨a', ks, rfl, h, fun q hq => ?_⟩
    have st := Step.new (o := itemsO q a') s1.fz hq
    refine ⟨_, G1, q, a', es, ds, rfl, st.fz, upd_same, RepT.step st r1', hd, fun v G' H' s r => k v G' H' (s1.trans (st.trans s)) (ResF.back (s1.hh.trans st.hh) r)⟩
  | _ => cases hs
def evDct1 (ea eb : EvD) : EvD := fun env => match ea env with
  | some k => (match eb env with
    | some v => (match keyOf k with
      | some k => some (.dic [(k, v)])
      | none => none)
    | none => none)
  | none => none
theorem dct1_inv {env : PyI.Env} {d : D} (h : evDct1 ea eb env = some d) : ∃ kd v k, ea env = some kd ∧ eb env = some v ∧ keyOf kd = some k ∧ d = .dic [(k, v)] := by
  unfold evDct1 at h
  split at h
  · split at h
    · split at h
      · cases h; exact ⟨_, _, _, by assumption, by assumption, by assumption, rfl⟩
      · cases h
    · cases h
  · cases h
theorem s_dct1 (ha : PE X a (tG X.K cls (PR X.K) ea)) (hb : PE X b (tG X.K cls (PV X.K) eb)) : PE X (.Dict [some a] [b] pos) (tG X.K cls (PX X.K true) (evDct1 ea eb)) := by
  refine PE.imp (pe_disp (pps_cons ha hb pps_nil) rfl rfl (by simp) (by simp)) fun σ H Q ⟨Γ, L, G, env, d, E, hl, q⟩ p hp => ?_
  obtain ⟨kd, vd, k, h1, h2, h3, rfl⟩ := dct1_inv hl
  have st := Step.new (o := .dK []) E.fz hp
  refine ⟨Γ, L, G, env, _, E.step st, h1, fun v G1 H1 s1 r1 => ⟨Γ, L, G1, env, _, E.step (st.trans s1), h2, fun w G2 H2 s2 r2 => ?_⟩⟩
  cases keyT r1 h3
  have hat : H2 p = some (.dK []) := s2.hh _ _ (s1.hh _ _ upd_same)
  have s12 := s1.trans s2
  have hgp : G2 p = none := by
    cases e : G2 p with
    | none => rfl
    | some o =>
      rcases s12.fr p (by rw [e]; simp) with z | z
      · exact absurd (E.fz.ne hp) z
      · rw [upd_same] at z; cases z
  have pL := E.fz.nl hp
  refine ⟨hat, [(k, w)], rfl, by simp, ?_⟩
  have S : Step (L ++ Γ.L0) G H G2 (upd H2 p (.dK (mergeK [] [(k, w)]))) := by
    refine ⟨fun b o e => ?_, s12.gg, fun b h => ?_, ⟨fun b o e => ?_, fun b hb => ?_⟩⟩
    · have ne : b ≠ p := ne_of_none e hp
      rw [upd_ne ne]
      exact s12.hh b o (by rw [upd_ne ne]; exact e)
    · rcases s12.fr b h with z | z
      · exact .inl z
      · right
        by_cases e : b = p
        · rw [e]; exact hp
        · rw [upd_ne e] at z; exact z
    · have ne : b ≠ p := fun z => by rw [z, hgp] at e; cases e
      rcases s12.fz.sub b o e with ⟨z1, z2⟩ | ⟨z1, o', kvs, z2, z3⟩
      · exact .inl ⟨z1, by rw [upd_ne ne]; exact z2⟩
      · exact .inr ⟨z1, o', kvs, z2, by rw [upd_ne ne]; exact z3⟩
    · have ne : b ≠ p := fun z => pL (by rw [← z]; exact hb)
      obtain ⟨o, kvs, z⟩ := s12.fz.lk b hb
      exact ⟨o, kvs, by rw [upd_ne ne]; exact z⟩
  refine q _ G2 _ S ⟨p, rfl, hgp, hp, _, upd_same, ?_⟩
  exact RepK.cons r2 .nil
/-! sorted(d, reverse=True) -/
def svS : Value → Str
  | .str s _ => s
  | _ => Str.empty
def ltSv (v u : Value) : Bool := decide ((svS v).cps.toList < (svS u).cps.toList)
theorem swo_str : SrtO.Swo ltSv := by
  refine ⟨fun x y h => ?_, fun x y z h1 h2 => ?_⟩
  · have a := of_decide_eq_true (p := (svS x).cps.toList < (svS y).cps.toList) h
    exact decide_eq_false (p := (svS y).cps.toList < (svS x).cps.toList) fun z => List.lt_irrefl _ (List.lt_trans a z)
  · have a := of_decide_eq_false (p := (svS y).cps.toList < (svS x).cps.toList) h1
    have b := of_decide_eq_false (p := (svS z).cps.toList < (svS y).cps.toList) h2
    exact decide_eq_false (p := (svS z).cps.toList < (svS x).cps.toList) (List.not_lt.mpr (List.le_trans (List.not_lt.mp a) (List.not_lt.mp b)))
theorem strs_mem : ∀ {vs : List Value} {ns : List Str}, StrsAre vs ns → ∀ v ∈ vs, ∃ i t, v = Value.str i t
  | _, _, .nil, v, h => absurd h (by simp)
  | _, _, .cons n t r, v, h => by
    rcases List.mem_cons.mp h with e | h
    · exact ⟨n, t, e⟩
    · exact strs_mem r v h
theorem strs_sv : ∀ {vs : List Value}, (∀ v ∈ vs, ∃ i t, v = Value.str i t) → StrsAre vs (vs.map svS)
  | [], _ => .nil
  | v :: vs, h => by
    obtain ⟨i, t, e⟩ := h v List.mem_cons_self
    subst e
    exact .cons i t (strs_sv fun u hu => h u (List.mem_cons_of_mem _ hu))
theorem sv_strs : ∀ {vs : List Value} {ns : List Str}, StrsAre vs ns → vs.map svS = ns
  | _, _, .nil => rfl
  | _, _, .cons n t r => congrArg (n :: ·) (sv_strs r)
theorem strs_of_vals : ∀ {ss : List Str} {us : List Value}, Vals (ss.map V.str) us → StrsAre us ss
  | [], _, .nil => .nil
  | s :: ss, _, .cons r t => by
    obtain ⟨tk, rfl⟩ := r
    exact .cons s tk (strs_of_vals t)
theorem vals_of_strs : ∀ {us : List Value} {ss : List Str}, StrsAre us ss → Vals (ss.map V.str) us
  | _, _, .nil => .nil
  | _, _, .cons n t r => .cons ⟨t, rfl⟩ (vals_of_strs r)
theorem rep_strs {K : PySem.W.Frag} {G : Hp} : ∀ ss : List Str, RepL K G (ss.map V.str) (ss.map D.str)
  | [] => .nil
  | s :: ss => .cons (.str s) (rep_strs ss)
theorem strs_sortable {prog : Program} {w : World} {A : Around} {s : Shared} {a : Addr} {vs : List Value} {ns : List Str} (hI : StrsAre vs ns) (h2 : 2 ≤ vs.length) : SrtO.SortableO prog w A s a vs ltSv := by
  intro h' _
  refine ⟨oneType', fun Q E hq => ?_, fun p q hm hm' => ?_⟩
  · match vs, hI, h2 with
    | v1 :: v2 :: rest, hI, _ =>
      rw [keyKind_strs hI]
      exact wpAny_pure hq
    | [], _, h => exact absurd h (by decide)
    | [v], _, h => exact absurd h (by simp)
  · obtain ⟨a, t, e⟩ := strs_mem hI _ hm
    obtain ⟨b, u, e'⟩ := strs_mem hI _ hm'
    show wpAny (model prog w) A (keyLt' oneType' p.1 q.1) (fun r s' => s' = _ ∧ r = ltSv p.1 q.1) (fun _ _ => False) _
    rw [e, e', keyLt'_oneType]
    exact oneLt_str ⟨rfl, rfl⟩
theorem revS_out {out : List Value} {us : List Value} {ss : List Str} (hI : StrsAre us ss) (hs : SrtO.Srtd ltSv out) (hp : out.Perm us.reverse) : (out.map svS).reverse = revS ss := by
  unfold revS
  congr 1
  have p1 : (out.map svS).Perm ss := by
    have := hp.map svS
    rw [List.map_reverse, sv_strs hI] at this
    exact this.trans (List.reverse_perm _)
  have s1 : (out.map svS).Pairwise fun a b => leS a b = true := by
    rw [List.pairwise_map]
    refine hs.imp fun {x y} h => ?_
    have h' : decide ((svS y).cps.toList < (svS x).cps.toList) = false := h
    unfold leS
    rw [h']; rfl
  have s2 : (ss.mergeSort leS).Pairwise fun a b => leS a b = true := by
    refine List.pairwise_mergeSort (fun a b c h1 h2 => ?_) (fun a b => ?_) ss
    · unfold leS at *
      rw [Bool.not_eq_true', decide_eq_false_iff_not] at *
      exact List.not_lt.mpr (List.le_trans (List.not_lt.mp h1) (List.not_lt.mp h2))
    · unfold leS
      rw [Bool.or_eq_true, Bool.not_eq_true', Bool.not_eq_true', decide_eq_false_iff_not, decide_eq_false_iff_not]
      by_cases c : b.cps.toList < a.cps.toList
      · right; exact fun d => List.lt_irrefl _ (List.lt_trans c d)
      · exact .inl c
  refine List.Perm.eq_of_pairwise (fun a b _ _ h1 h2 => ?_) s1 s2 (p1.trans (List.mergeSort_perm _ _).symm)
  unfold leS at h1 h2
  rw [Bool.not_eq_true', decide_eq_false_iff_not] at h1 h2
  have e := List.le_antisymm (List.not_lt.mp h1) (List.not_lt.mp h2)
  cases a; cases b
  congr 1
  exact Array.toList_inj.mp e
theorem c_srev (hc : X.calm = true) : CallRK X (.builtin "sorted") [Str.ofString "reverse"] (fun vs zs H Q => ∃ L G x es ss, vs = [x] ∧ zs = [.bl true] ∧ Fz L G H ∧ RepT X.K G H x (.dic es) ∧ strsD (es.map fun kv => ofKey kv.1) = some ss ∧
    ∀ v G' H', Step L G H G' H' → ResF X.K G' H H' v (.lst ((revS ss).map .str)) → Q v H') := by
  intro pins s σ H vs zs us ws Q I r rz h
  obtain ⟨L, G, x, es, ss, rfl, rfl, fz, tx, hs, k⟩ := h
  obtain ⟨a, ks, rfl, h, rr⟩ := tx
  obtain ⟨u, rfl, rx⟩ := vals1 r
  cases rx
  obtain ⟨w1, rfl, e1⟩ := vals1 rz
  obtain rfl : w1 = Value.bool true := e1
  obtain ⟨z, lo, ds, rel, dd⟩ := dk_rd I.hok h
  obtain ⟨ep, hat⟩ := dd.dictAt
  refine PyProof.Rows.call_function_entry_kw PyProof.Rows.kind_sorted PyProof.Rows.plain_sorted PyProof.Rows.entry_sorted (PyProof.Rows.args_sorted_rev _ _) ?_
  unfold Builtin.«sorted»
  refine wpAny_bind (m := checkCount "sorted" 1 1 _) (wpAny_pure ?_)
  refine wpAny_bind (PySem.W.kdu_collect (PySem.W.kdl_dict (knd := mixKind X.prog X.w) (kvs := ds) (ep := ep) lo) (I.ok.hd hc) hat (by rw [← rel.length]; exact z) fun h' tk acc hk hacc => ?_)
  have hl : acc.toList.length = ks.length := by rw [Array.length_toList, hacc.1, rel.length]
  have key : ∀ (j : Nat) (kv : Key × V), ks[j]? = some kv → ∃ v, acc.toList[j]? = some v ∧ RelV (kV kv.1) v := by
    intro j kv e
    obtain ⟨u, e2, _⟩ := kv_get rel (show ks[j]? = some (kv.1, kv.2) from e)
    have hj : j < acc.toList.length := by rw [hl]; exact (List.getElem?_eq_some_iff.mp e).1
    have ev : acc[j]? = some acc.toList[j] := by rw [← Array.getElem?_toList]; exact List.getElem?_eq_getElem hj
    obtain ⟨k', x', e3, e4⟩ := hacc.2 j _ ev
    rw [e2] at e3
    cases e3
    exact ⟨_, List.getElem?_eq_getElem hj, relV_key e4⟩
  have rv : Vals (ks.map fun kv => kV kv.1) acc.toList := by
    clear hacc hat hk
    generalize acc.toList = us at hl key
    clear rr h rel k
    induction ks generalizing us with
    | nil => cases us with
      | nil => exact .nil
      | cons => simp at hl
    | cons kv ks ih => cases us with
      | nil => simp at hl
      | cons w ws =>
        obtain ⟨v, e1, e2⟩ := key 0 kv rfl
        have e1' : w = v := by simpa using e1
        subst e1'
        exact .cons e2 (ih (Nat.le_trans (Nat.le_succ _) z) ws (by simpa using hl) fun j kv' e => by simpa using key (j + 1) kv' (by simpa using e))
  rw [rr.keys.strsD hs] at rv
  have hI := strs_of_vals rv
  generalize acc.toList = us at hI hl
  have hlen : us.length ≤ sizeLine := by rw [hl]; exact z
  have I1 : Inv X pins σ H { s with heap := h', toks := tk } := I.kept (t' := tk) hk
  refine wpAny_bind (wpAny_newList ?_ hlen)
  have hoL : (h'.push (seqObj "list" us.toArray 0)).get? h'.objs.size = some (seqObj "list" us.toArray 0) := Heap.get?_push_size _ rfl
  show wpAny _ _ _ _ _ { s with heap := h'.push (seqObj "list" us.toArray 0), toks := tk }
  refine wpAny_bind (wpAny_holding (wpAny_call_entry_kw PyProof.Rows.slot_list_sort ⟨_, hoL, rfl⟩ PyProof.Rows.entry_list_sort ?_ (PyProof.Rows.args_list_sort_rev _ _)))
  refine SrtR.list_sort_ordR (b := true) swo_str hoL hlen (fun h2 => strs_sortable hI h2) fun out h1 h2 => ⟨_, rfl, ?_⟩
  have hp : out.Perm us.reverse := h2.perm
  have e2 := revS_out hI h1 hp
  have hsv : StrsAre out.reverse (revS ss) := by
    rw [← e2, ← List.map_reverse]
    refine strs_sv fun v hv => strs_mem hI v ?_
    exact List.mem_reverse.mp (hp.mem_iff.mp (List.mem_reverse.mp hv))
  obtain ⟨ep2, he'⟩ := PyProof.Rows.sortedHeap_at (vs := us) (out := out.toArray.reverse) hoL
  have eo : out.toArray.reverse = out.reverse.toArray := by simp
  have hol : ((revS ss).map V.str).length ≤ sizeLine := by
    have := (vals_of_strs hsv).length
    rw [this, List.length_reverse, hp.length_eq, List.length_reverse]; exact hlen
  have hnew : H h'.objs.size = none := I1.hok.fresh (Nat.le_refl _)
  have I2 : Inv X pins σ (upd H h'.objs.size (.lst ((revS ss).map V.str))) { s with heap := PyProof.Rows.sortedHeap (h'.push (seqObj "list" us.toArray 0)) h'.objs.size us out.toArray.reverse, toks := tk } := by
    refine I1.laid (t' := tk) (fun b u e => ?_) (Nat.le_refl _) (show ObjOk X.prog X.w _ _ _ (.lst ((revS ss).map V.str)) from ⟨hol, out.reverse, ep2, vals_of_strs hsv, by rw [← eo]; exact he'⟩)
    have hb : b < h'.objs.size := Heap.lt_size e
    rw [PyProof.Rows.sortedHeap_old (Nat.ne_of_lt hb) (by rw [size_push']; exact Nat.lt_succ_of_lt hb)]
    exact Heap.get?_push_of_some _ e
  refine wpAny_pure ⟨_, rfl, .ref h'.objs.size, _, I2, rfl, ?_⟩
  exact k _ G _ (Step.new fz hnew) ⟨_, rfl, fz.ne hnew, hnew, _, upd_same, rep_strs _⟩
theorem s_srev {kpos p1 : Pos} {j : Nat} (hc : X.calm = true) (hg : Gl X "sorted") (hm : X.mg "sorted" = none) (ha : PE X a (tG X.K cls (PR X.K) ea)) (hn : notStar a = true) :
    PE X (.Call (.Name "sorted" p) [a] [⟨some "reverse", .Constant (.bool true) j p1, kpos⟩] pos) (tG X.K cls (PX X.K true) (evOp1 .srev ea)) := by
  have hs : starEach [a] X.env = (false, eval a X.env) :: starEach [] X.env := by cases a <;> first | rfl | cases hn
  refine PE.imp (pe_callBK (ks := [Str.ofString "reverse"]) (c_srev hc) hg hm boot_sorted_ (pa_cons ha pa_nil hs) (pk_cons pe_bl pk_nil) (by decide) (by decide) (by rw [hs]; rfl) (by rw [hs]; rfl)) fun σ H Q ⟨Γ, L, G, env, d, E, hl, k⟩ => ?_
  obtain ⟨x, hx, hs⟩ := op1_inv hl
  cases x with
  | dic es =>
    obtain ⟨ss, hd, rfl⟩ := map_some (show (strsD (es.map fun kv => ofKey kv.1)).map (fun ss => D.lst ((revS ss).map .str)) = some d from hs)
    exact ⟨Γ, L, G, env, _, E, hx, fun v G1 H1 s1 r1 => ⟨_, G1, _, es, ss, rfl, rfl, s1.fz, r1, hd, fun v G' H' s r => k v G' H' (s1.trans s) (ResF.back s1.hh r)⟩⟩
  | _ => cases hs
/-! a frame seen anew: what was owned is borrowed -/
theorem clA_toB (cls : List Cl) (i : Nat) : clA (toB cls) i = (match clA cls i with | .O => .B | c => c) := by
  unfold clA toB
  rw [List.getD_eq_getElem?_getD, List.getD_eq_getElem?_getD, List.getElem?_map]
  cases cls[i]? with
  | none => rfl
  | some c => cases c <;> rfl
theorem EnvRel.rebase {K : PySem.W.Frag} {Γ : Gh} {L : List Addr} {cls : List Cl} {G H : Hp} {env : PyI.Env} {σ : L2.St} (E : EnvRel K Γ L cls G env σ H) : EnvRel K ⟨H, G, [], L ++ Γ.L0, []⟩ [] (toB cls) G env σ H where
  fz := E.fz
  g0 := Ex.refl G
  gf := fun b h => .inl h
  h0 := fun b h => h
  kp := fun b o h _ => .inl ⟨by simp, h⟩
  len := E.len
  cl := by unfold toB; rw [List.length_map]; exact E.cl
  sl := fun i d hd => by
    obtain ⟨v, h1, h2⟩ := E.sl i d hd
    refine ⟨v, h1, ?_⟩
    rw [clA_toB]
    cases q : clA cls i with
    | F => rw [q] at h2; exact h2
    | B =>
      rw [q] at h2
      rcases h2 with h2 | ⟨a, e, hn, h⟩
      · exact .inl h2
      · refine .inr ⟨a, e, by simp, ?_⟩
        have f : ∀ o, Γ.H0 a = some o → At L H a o := fun o z => E.kp a o z hn
        show OwnR K G H a d
        cases d with
        | lst ds =>
          obtain ⟨xs, h, r⟩ := h
          refine ⟨xs, ?_, r⟩
          rcases h with h | h
          · exact .inl (At.rdu (o := .lst xs) h f)
          · exact .inr h
        | dic ds => obtain ⟨xs, h, r⟩ := h; exact ⟨xs, At.rdu (o := .dK xs) h f, r⟩
        | _ => exact h.elim
    | O =>
      rw [q] at h2
      rcases h2 with ⟨_, h2⟩ | ⟨a, e, _, _, h⟩
      · exact .inl h2
      · refine .inr ⟨a, e, by simp, ?_⟩
        show OwnR K G H a d
        cases d with
        | lst ds => obtain ⟨xs, h, r⟩ := h; exact ⟨xs, .inl (.inl h), r⟩
        | dic ds => obtain ⟨xs, h, r⟩ := h; exact ⟨xs, .inl h, r⟩
        | _ => exact h.elim
  ap := fun i j d e a _ c1 => by
    exfalso
    rw [clA_toB] at c1
    cases q : clA cls i <;> rw [q] at c1 <;> cases c1
  io := fun p hp => by cases hp
  ib := fun p hp => by cases hp
  lks := fun p hp => by cases hp
theorem tG_toB {K : PySem.W.Frag} {cls : List Cl} {Post : Hp → Hp → Hp → V → D → Prop} {ev : EvD} (σ : L2.St) (H : Hp) (Q : VK) (h : tG K cls Post ev σ H Q) : tG K (toB cls) Post ev σ H Q := by
  obtain ⟨Γ, L, G, env, d, E, hv, k⟩ := h
  exact ⟨_, [], G, env, d, E.rebase, hv, k⟩
/-! texts from their end -/
def evRev (ea : EvD) : EvD := fun env => match ea env with
  | some (.str s) => revSem (.str s)
  | _ => none
end
end PyI
end

section
set_option maxRecDepth 100000
set_option maxHeartbeats 4000000
namespace PyI
open PySem PySem.Spec PyProof.Rows L2
def keyS (e : Int × Value) : Str := match e.2 with
  | .str k _ => k
  | _ => Str.empty
section
variable {P : Program} {w : World} {A : Around} {E : Value → Shared → Prop} {s : Shared} {a : Addr}
def GdS (P : Program) (w : World) (e : Int × Value) : Prop := ∃ k tk, e.2 = Value.str k tk ∧ e.1 = (PySem.strKind P w).hash k
/-- the set at a holds just the texts l, each once; its table can be walked -/
def SetS (P : Program) (w : World) (h : Heap) (a : Addr) (l : List Str) : Prop :=
  ∃ o es ep t, h.get? a = some o ∧ o.ExactSet ∧ o.data = .set es ep t ∧ (∀ e ∈ es.toList, GdS P w e) ∧ (es.toList.map keyS).Nodup ∧ (∀ k, k ∈ es.toList.map keyS ↔ k ∈ l) ∧
    es.size < scanBound ∧ t.fits es.size = true ∧ es.size ≤ l.length ∧ L2.Ris t.place.toList ∧ (w.params.followText "set-order" = true ∨ t.led = true)
theorem gdS_el {l : List (Int × Value)} (g : ∀ e ∈ l, GdS P w e) : ElemsOf (PySem.strKind P w) l := fun e he => by
  obtain ⟨k, tk, h1, h2⟩ := g e he
  exact ⟨⟨k, by rw [h1]; exact strKind_is P w k tk, h2⟩, by rw [h1] <;> rfl⟩
theorem gdS_is {e : Int × Value} (g : GdS P w e) (k : Str) : (PySem.strKind P w).is k e.2 = true ↔ keyS e = k := by
  obtain ⟨k0, tk, h1, _⟩ := g
  unfold keyS
  rw [h1]
  constructor
  · intro h
    exact (PySem.strKind P w).inj (.str k0 tk) k0 k (strKind_is P w k0 tk) h
  · rintro rfl
    exact strKind_is P w _ tk
theorem gdS_mem {l : List (Int × Value)} (g : ∀ e ∈ l, GdS P w e) (k : Str) : k ∈ l.map keyS ↔ ∃ e ∈ l, (PySem.strKind P w).is k e.2 = true := by
  rw [List.mem_map]
  exact ⟨fun ⟨e, he, q⟩ => ⟨e, he, (gdS_is (g e he) k).2 q⟩, fun ⟨e, he, q⟩ => ⟨e, he, (gdS_is (g e he) k).1 q⟩⟩
theorem setS_tail {g : Bool → Sem Unit} (hg : ∀ (b : Bool) (s₁ : Shared) (Q2 : Unit → Shared → Prop), Q2 () s₁ → wpAny (model P w) A (g b) Q2 E s₁)
    {o : Obj} {es : Array (Int × Value)} {ep : Nat} {t : SetTable} (ho : s.heap.get? a = some o) (hex : o.ExactSet) (hd : o.data = .set es ep t) {es1 : Array (Int × Value)} {t2 : SetTable} {l : List Str}
    (g1 : ∀ e ∈ es1.toList, GdS P w e) (nd1 : (es1.toList.map keyS).Nodup) (m1 : ∀ k, k ∈ es1.toList.map keyS ↔ k ∈ l) (hb1 : es1.size < scanBound) (hf2 : t2.fits es1.size = true) (hn : es1.size ≤ l.length) (hr : L2.Ris t2.place.toList)
    (hl : w.params.followText "set-order" = true ∨ t2.led = true) {wasDummy : Bool} {R : Option Bool → Shared → Prop} (hR : ∀ h2, Heap.SameBut a s.heap h2 → SetS P w h2 a l → R (some true) { s with heap := h2 }) :
    wpAny (model P w) A (do
        storeSet a es1 t2
        if (!wasDummy && t2.tooFull) = true then do
            g (relayAll t2 es1 (SetTable.grown es1.size)).2.2
            storeSet a (relayAll t2 es1 (SetTable.grown es1.size)).1 (relayAll t2 es1 (SetTable.grown es1.size)).2.1
            pure (some true)
          else pure (some true)) R E s := by
  refine wpAny_bind (wpAny_storeSet_of ho hd ?_ (fits_of_scanBound hb1))
  have ho1 := L2.store_at (es' := es1) (t' := t2) ho hd
  have sb1 := Heap.SameBut.update s.heap a (Obj.putSet es1 t2)
  split
  · have pm := relayAll_perm t2 es1 (SetTable.grown es1.size)
    have f3 := relayAll_fits t2 es1 (SetTable.grown es1.size)
    have r3 := L2.relayAll_ris t2 es1 (SetTable.grown es1.size)
    have l3 := L2.relayAll_led t2 es1 (SetTable.grown es1.size)
    generalize relayAll t2 es1 (SetTable.grown es1.size) = Z at pm f3 r3 l3 ⊢
    obtain ⟨es2, t3, gave⟩ := Z
    dsimp only at pm f3 r3 l3 ⊢
    have hz : es2.size = es1.size := by rw [← Array.length_toList, pm.length_eq, Array.length_toList]
    refine wpAny_bind (hg _ _ _ (wpAny_bind (wpAny_storeSet_of ho1 rfl ?_ (fits_of_scanBound (by rw [hz]; exact hb1)))))
    have ho2 := L2.store_at (es' := es2) (t' := t3) ho1 rfl
    exact wpAny_pure (hR _ (sb1.trans (Heap.SameBut.update _ a _)) ⟨_, es2, _, t3, ho2, hex, rfl, fun e he => g1 e (pm.mem_iff.mp he), (pm.map keyS).nodup_iff.mpr nd1, fun k => (pm.map keyS).mem_iff.trans (m1 k), by rw [hz]; exact hb1, f3, by rw [hz]; exact hn, r3, hl.imp id fun z => by rw [l3]; exact z⟩)
  · exact wpAny_pure (hR _ sb1 ⟨_, es1, _, t2, ho1, hex, rfl, g1, nd1, m1, hb1, hf2, hn, hr, hl⟩)
theorem setS_hashed {l : List Str} {k : Str} {tk : Tok} {Q : Bool → Shared → Prop} (R : SetS P w s.heap a l) (room : l.length + 1 < scanBound)
    (hQ : ∀ h2, Heap.SameBut a s.heap h2 → SetS P w h2 a (l ++ [k]) → ∀ b, Q b { s with heap := h2 }) : wpAny (model P w) A (setAddHashed a (.str k tk) ((PySem.strKind P w).hash k)) Q E s := by
  obtain ⟨o, es, ep, t, ho, hex, hd, g, nd, hm, hb, hf, hn, hr, hl⟩ := R
  have hkey : (PySem.strKind P w).is k (.str k tk) = true := strKind_is P w k tk
  have hsc : (Value.str k tk).scannable = true := rfl
  have hel := gdS_el (P := P) (w := w) g
  unfold setAddHashed setAddHashedIn
  refine wpAny_holding (wpAny_bind (wpAny_setState_of ho hd hf ?_))
  dsimp only
  rw [byScan_of hsc hb hel]
  simp only [↓reduceIte]
  unfold setAddByScan
  refine wpAny_bind (wpAny_bind (wpAny_rule (wpAny_bind (wpAny_setScan_of hkey ho hd hf hel ?_))))
  cases hfi : List.findIdx? (fun e => (PySem.strKind P w).is k e.2) es.toList with
  | some j =>
    dsimp only
    obtain ⟨hj, pj, _⟩ := List.findIdx?_eq_some_iff_getElem.mp hfi
    have hk : k ∈ l := (hm k).1 ((gdS_mem g k).2 ⟨es.toList[j], List.getElem_mem hj, pj⟩)
    exact wpAny_pure (wpAny_pure (hQ s.heap (Heap.SameBut.refl a s.heap) ⟨o, es, ep, t, ho, hex, hd, g, nd, fun i => (hm i).trans ⟨fun z => List.mem_append_left _ z, fun z => (List.mem_append.mp z).elim id fun z => List.mem_singleton.mp z ▸ hk⟩, hb, hf, by rw [List.length_append, List.length_singleton]; omega, hr, hl⟩ _))
  | none =>
    dsimp only
    have hnk : k ∉ es.toList.map keyS := fun z => by
      obtain ⟨e, he, q⟩ := (gdS_mem g k).1 z
      have c := List.findIdx?_eq_none_iff.mp hfi e he
      rw [q] at c
      cases c
    have hgw : ∀ (b : Bool) {s₁ : Shared} {Q2 : Unit → Shared → Prop}, Q2 () s₁ → wpAny (model P w) A (match b with | true => rule "set.scan.the-table-gave-way" | false => pure ()) Q2 E s₁ := fun b s₁ Q2 q => by cases b <;> first | exact wpAny_pure q | exact wpAny_rule q
    have pm := layNew_perm t es ((PySem.strKind P w).hash k) (.str k tk)
    have f1 := layNew_fits t es ((PySem.strKind P w).hash k) (.str k tk)
    have r1 := L2.layNew_ris t es ((PySem.strKind P w).hash k) (.str k tk) hr
    have l1 := L2.layNew_led t es ((PySem.strKind P w).hash k) (.str k tk)
    generalize layNew t es ((PySem.strKind P w).hash k) (.str k tk) = Z at pm f1 r1 l1 ⊢
    obtain ⟨es1, t1, wasDummy, gave⟩ := Z
    dsimp only at pm f1 r1 l1 ⊢
    rw [Array.toList_push] at pm
    have pc : es1.toList.Perm (((PySem.strKind P w).hash k, Value.str k tk) :: es.toList) := pm.trans (List.perm_append_singleton _ _)
    have pk : (es1.toList.map keyS).Perm (k :: es.toList.map keyS) := pc.map keyS
    have g1 : ∀ e ∈ es1.toList, GdS P w e := fun e he => (List.mem_cons.mp (pc.mem_iff.mp he)).elim (fun z => by rw [z]; exact ⟨k, tk, rfl, rfl⟩) fun z => g e z
    have nd1 : (es1.toList.map keyS).Nodup := pk.nodup_iff.mpr (List.nodup_cons.mpr ⟨hnk, nd⟩)
    have m1 : ∀ i, i ∈ es1.toList.map keyS ↔ i ∈ l ++ [k] := fun i => by
      rw [pk.mem_iff, List.mem_cons, hm i, List.mem_append, List.mem_singleton]
      exact Or.comm
    have hz : es1.size = es.size + 1 := by rw [← Array.length_toList, pc.length_eq, List.length_cons, Array.length_toList]
    have hb1 : es1.size < scanBound := by rw [hz]; omega
    have hn1 : es1.size ≤ (l ++ [k]).length := by rw [hz, List.length_append, List.length_singleton]; omega
    have hled : w.params.followText "set-order" = true ∨ t1.led = true := hl.imp id fun z => by rw [l1]; exact z
    refine wpAny_bind (hgw _ ?_)
    split
    · refine wpAny_bind ?_
      rw [hashByValue_scannable 8 hsc]
      refine wpAny_pure ?_
      refine setS_tail ?_ ho hex hd g1 nd1 m1 hb1 ?_ hn1 ?_ ?_ ?_
      · intro b s₁ Q2 q; cases b <;> first | exact wpAny_pure q | exact wpAny_rule q
      · first | (split <;> first | exact f1 | exact SetTable.fits_plain_off f1) | exact f1
      · first | (split <;> exact r1) | exact r1
      · first | (split <;> exact hled) | exact hled
      · intro h2 sb r; dsimp only; exact wpAny_pure (hQ h2 sb r _)
    · refine wpAny_bind (wpAny_pure ?_)
      simp only [↓reduceIte]
      refine setS_tail ?_ ho hex hd g1 nd1 m1 hb1 f1 hn1 r1 hled ?_
      · intro b s₁ Q2 q; cases b <;> first | exact wpAny_pure q | exact wpAny_rule q
      · intro h2 sb r; dsimp only; exact wpAny_pure (hQ h2 sb r _)
end
end PyI
end

section
set_option maxRecDepth 100000
set_option maxHeartbeats 4000000
namespace PyI
open PySem PySem.Spec PyProof.Rows L2
abbrev nSet (w : World) : Obj := { cls := .type "set", dict := none, data := .set #[] 0 (.fresh 0 0 (!w.params.followText "set-order")) }
section
variable {P : Program} {w : World} {A : Around} {E : Value → Shared → Prop} {s : Shared}
theorem SetS.at {h h2 : Heap} {a : Addr} {l : List Str} (R : SetS P w h a l) (k : ∀ o, h.get? a = some o → h2.get? a = some o) : SetS P w h2 a l := by
  obtain ⟨o, es, ep, t, ho, r⟩ := R
  exact ⟨o, es, ep, t, k o ho, r⟩
theorem setS_new {h : Heap} {a : Addr} (ho : h.get? a = some (nSet w)) : SetS P w h a [] :=
  ⟨_, #[], 0, _, ho, ⟨rfl, rfl, rfl⟩, rfl, (fun e he => by simp at he), (by simp), (fun k => by simp), (by decide), (by rfl), (by simp), List.Pairwise.nil, by
    show _ ∨ (!w.params.followText "set-order") = true
    cases w.params.followText "set-order" <;> simp⟩
theorem setS_update {I : Addr} {fp wr : List Addr} {G : Array GenState → Array GenState → Prop} {n : Nat} {Pv : Nat → Value → Prop} {St : Nat → Shared → Prop} {R : Result → Shared → Prop}
    (W : WalksS P w A.in1 I fp wr G n Pv St) (S : Addr) (hSf : S ∉ fp) (xs : List Str) (hn : n = xs.length) (hb : xs.length + 1 < scanBound) (hval : ∀ i v, Pv i v → ∃ k t, xs[i]? = some k ∧ v = .str k t) :
    ∀ (k i : Nat) (s : Shared), n - i = k → i ≤ n → St i s → SetS P w s.heap S (xs.take i) → (∀ s2, Moved (S :: wr) G s s2 → SetS P w s2.heap S xs → R (.ok (.ret .none)) s2) →
      codeAny (model P w) A (.builtin "set.update.loop" ⟨[.ref S, .ref I], []⟩) R s := by
  have hSw : S ∉ wr := fun h => hSf (W.sub _ h)
  intro k
  induction k with
  | zero =>
    intro i s hk hi hst hS hR
    obtain rfl : i = n := by omega
    refine codeAny_builtin F.entry_set_update_loop ?_
    rw [Around.under_plainId F.plain_set_update_loop _]
    refine wpAny_bind (W.done s _ _ hst fun s2 hm => ?_)
    rw [List.take_of_length_le (by omega)] at hS
    exact wpAny_pure (hR s2 (hm.mono fun b hb => List.mem_cons_of_mem _ hb) (hS.at fun o e => hm.heap S o hSw e))
  | succ k ih =>
    intro i s hk hi hst hS hR
    have hlt : i < n := by omega
    refine codeAny_builtin F.entry_set_update_loop ?_
    rw [Around.under_plainId F.plain_set_update_loop _]
    refine wpAny_bind (W.item i s _ _ hlt hst fun v s2 hP hst2 hm => ?_)
    obtain ⟨z, t, hz, rfl⟩ := hval i v hP
    have hS2 : SetS P w s2.heap S (xs.take i) := hS.at fun o e => hm.heap S o hSw e
    show wpAny _ A.in1 (holding [Value.str z t] (setAdd S (.str z t)) >>= _) _ _ s2
    refine wpAny_bind (wpAny_holding ?_)
    unfold setAdd
    refine wpAny_holding (wpAny_bind ((PySem.strKind P w).pyHash (k := z) (strKind_is _ _ _ _) ?_))
    refine setS_hashed (s := { s2 with toks := s2.toks + 1 }) hS2 (by rw [List.length_take]; omega) fun h2 hsb hS3 _ => ?_
    rw [show xs.take i ++ [z] = xs.take (i + 1) by rw [List.take_add_one, hz]; rfl] at hS3
    refine wpAny_pure ⟨plainId_quiet F.plain_set_update_loop _, ih (i + 1) _ (by omega) hlt (W.frame _ s2 _ _ hst2 (Nat.le_succ _) fun b hb o e => ?_) hS3 fun s3 hm3 hS4 => ?_⟩
    · rw [hsb.2 b (fun h : b = S => hSf (h ▸ hb))]; exact e
    · refine hR s3 (Moved.trans W.gtrans ((hm.mono fun b hb => List.mem_cons_of_mem _ hb).then_heap (Nat.le_succ _) fun b o hb e => ?_) hm3) hS4
      rw [hsb.2 b (fun h : b = S => hb (h ▸ List.mem_cons_self))]; exact e
set_option maxHeartbeats 8000000 in
theorem call_setS {l : Addr} {items : Array Value} (xs : List Str) {Q : Value → Shared → Prop} (hh : A.handled = none) (hl : s.heap.IsList l items) (hit : StrsAre items.toList xs) (hb : xs.length + 1 < scanBound)
    (h : ∀ (h2 : Heap) (tk : Nat), SetS P w h2 s.heap.objs.size xs → (∀ b o, s.heap.get? b = some o → h2.get? b = some o) → Q (.ref s.heap.objs.size) { s with heap := h2, toks := tk }) :
    wpAny (model P w) A (call (.type "set") [.ref l]) Q E s := by
  have hisz : items.size = xs.length := by
    have q := StrsAre.len_eq hit
    rw [Array.length_toList] at q
    exact q
  obtain ⟨c, tl, hmro⟩ := F.called_set.mro
  have hmade := F.called_set.made
  have hsub := F.called_set.sub
  refine wpAny_call (codeAny_of_tree ?_)
  show wpAny _ _ (callAny (.type "set") _) _ _ _
  refine wpAny_pure ⟨Code.quiet_builtin _ (by decide +kernel), codeAny_builtin F.entry_type_call ?_⟩
  rw [Around.under_plain (weight_type_call_type "set" [.ref l] []) rfl]
  have h1 := F.called_set.notType
  have h2 := F.called_set.canCreate
  have hct := F.typeCall_set_1 (.ref l)
  repeat (any_goals (first | wp_step | assumption))
  refine codeAny_mono (code_set_led1 (.ref l) (E := E) (Q₁ := fun obj s₁ => obj = .ref s.heap.objs.size ∧ s₁ = { s with heap := s.heap.push (nSet w) }) ⟨rfl, rfl⟩) fun r s₁ hr => ?_
  cases r with
  | error e => exact hr
  | ok fl =>
    cases fl with
    | ret obj =>
      obtain ⟨rfl, rfl⟩ := hr
      have hS : (s.heap.push (nSet w)).get? s.heap.objs.size = some (nSet w) := Heap.get?_push_size _ rfl
      have hT : Shared.TypeIs { s with heap := s.heap.push (nSet w) } (.ref s.heap.objs.size) "set" := ⟨_, hS, rfl⟩
      have hli := F.called_set.init.lookup
      have hbi := F.called_set.init.bind (.ref s.heap.objs.size)
      repeat (any_goals (first | wp_step | assumption))
      refine codeAny_mono (codeAny_call_builtin (R := wants (fun r s₂ => r = .none ∧ ∃ h2 tk, s₂ = { s with heap := h2, toks := tk } ∧ SetS P w h2 s.heap.objs.size xs ∧
          (∀ b o, s.heap.get? b = some o → h2.get? b = some o)) E) F.called_set.init.plain F.entry_set_init (check_set_init_1 hT ?_)) fun r₂ s₂ hr₂ => ?_
      · obtain ⟨⟨ocls, odict, odata, oslots⟩, hol, hcl, nl, hdl⟩ := hl
        simp only at hcl hdl
        subst hcl hdl
        have hol2 : (s.heap.push (nSet w)).get? l = some { cls := .type "list", dict := odict, data := .seq items nl, slots := oslots } := Heap.get?_push_of_some _ hol
        have hsls := F.sub_list_set
        have hslf := F.sub_list_frozenset
        have hne : (Value.type "list" == Value.type "dict") = false := by decide
        have hl1 : (s.heap.push (nSet w)).IsList l items := ⟨_, hol2, rfl, nl, rfl⟩
        unfold Builtin.«set.__init__» noKeywords Builtin.Frozenset.updateFrom
        generalize hPI : pyIter = PI
        wp_walk
        subst hPI
        refine wpAny_pyIter_list hl1 (wpAny_bind (wpAny_runValue ?_))
        have hlS : l < s.heap.objs.size := Heap.lt_size hol
        have hh3 : A.in1.in1.in1.handled = none := by simp [hh]
        have hz1 : (s.heap.push (nSet w)).objs.size = s.heap.objs.size + 1 := Heap.size_push ..
        have hneI : l ≠ (s.heap.push (nSet w)).objs.size := by rw [hz1]; exact Nat.ne_of_lt (Nat.lt_succ_of_lt hlS)
        have hSf : s.heap.objs.size ∉ [(s.heap.push (nSet w)).objs.size, l] := by
          rw [hz1]
          simp only [List.mem_cons, List.not_mem_nil, or_false, not_or]
          exact ⟨Nat.ne_of_lt (Nat.lt_succ_self _), Nat.ne_of_gt hlS⟩
        have hval : ∀ (i : Nat) (v : Value), items[i]? = some v → ∃ k t, xs[i]? = some k ∧ v = .str k t := fun i v hv => by
          have hi : i < xs.length := by rw [← hisz]; exact (Array.getElem?_eq_some_iff.mp hv).1
          obtain ⟨t, e⟩ := SS.strs_at hit i v (by rw [Array.getElem?_toList]; exact hv)
          exact ⟨xs[i], t, List.getElem?_eq_getElem hi, by rw [e, List.getD_eq_getElem?_getD, List.getElem?_eq_getElem hi]; rfl⟩
        refine setS_update ((Walks.list hh3 _ l hneI items).toS) s.heap.objs.size hSf xs hisz hb hval (items.size - 0) 0 _ (by omega) (Nat.zero_le _) ⟨⟨_, Heap.get?_push_size _ rfl, rfl, rfl⟩, (hl1.push _)⟩ (setS_new (Heap.get?_push_of_some _ hS)) fun s2 hm hS2 => ?_
        obtain ⟨h2', g2, d2, tk2, os2⟩ := s2
        have eg : g2 = s.gens := hm.gens
        have ed : d2 = s.drawn := hm.drawn
        have eo : os2 = s.os := hm.os
        subst eg ed eo
        show wpAny _ _ _ _ _ _
        refine wpAny_pure ?_
        show wpAny _ _ (ret Value.none) _ _ _
        refine wpAny_pure ⟨rfl, h2', tk2, rfl, hS2, fun b o e => ?_⟩
        have hbl := Heap.lt_size e
        exact hm.heap b o (by
          rw [hz1]
          simp only [List.mem_cons, List.not_mem_nil, or_false, not_or]
          exact ⟨Nat.ne_of_lt hbl, Nat.ne_of_lt (Nat.lt_succ_of_lt hbl)⟩) (Heap.get?_push_of_some _ (Heap.get?_push_of_some _ e))
      · cases r₂ with
        | error e => exact hr₂
        | ok fl₂ =>
          cases fl₂ with
          | ret r =>
            obtain ⟨rfl, h2', tk, rfl, hS2, hk2⟩ := hr₂
            repeat (any_goals (first | wp_step | assumption))
            exact h _ _ hS2 hk2
          | _ => exact hr₂.elim
    | _ => exact hr.elim
end
end PyI
end

section
set_option maxRecDepth 100000
set_option maxHeartbeats 4000000
namespace PyI
open PySem PySem.Spec PyProof.Rows L2
def SetSO (P : Program) (w : World) (a : Addr) (l : List Str) : HO := .ext fun h => SetS P w h a l
theorem setSO_new {w : World} {P : Program} {H : Hp} {h : Heap} {a : Addr} {l : List Str} (R : SetS P w h a l) : ObjOk P w H h a (SetSO P w a l) := by
  have ⟨o, _, _, _, ho, _⟩ := R
  exact ⟨R, ⟨o, ho⟩, fun _ _ p k => SetS.at p k⟩
section
variable {X : Cx}
theorem setSO_get {pins : List (Addr × Obj)} {σ : L2.St} {H : Hp} {s : Shared} {a : Addr} {l : List Str} (I : Inv X pins σ H s) (ha : H a = some (SetSO X.prog X.w a l)) : SetS X.prog X.w s.heap a l := (I.hok a _ ha).1
def rSetS (X : Cx) : List V → Hp → VK → Prop := fun vs H Q => ∃ a, ∃ ss : List Str, vs = [V.ref a] ∧ SqL X.K H a (ss.map V.str) ∧ ss.length + 1 < scanBound ∧ ∀ p, H p = none → Q (.ref p) (upd H p (SetSO X.prog X.w p ss))
theorem cr_setS (hc : X.calm = true) : CallR X (.type "set") (rSetS X) := by
  intro pins s σ H xs us Q I r h
  obtain ⟨a, ss, rfl, hl, hb, q⟩ := h
  rw [Vals.ref1 r]
  obtain ⟨its, rv, pl, hz⟩ := I.list hl
  have hn : H s.heap.objs.size = none := I.hok.fresh (Nat.le_refl _)
  refine call_setS (P := X.prog) (w := X.w) ss (I.ok.hd hc) pl.isList (strsAre_of (by simpa using rv)) hb fun h2 tk R k => ?_
  exact ⟨.ref s.heap.objs.size, upd H s.heap.objs.size (SetSO X.prog X.w s.heap.objs.size ss), I.laid (t' := tk) k (Nat.le_refl _) (setSO_new R), rfl, q _ hn⟩
/-- texts in their order, each once -/
def leT (a b : Str) : Bool := PySem.W.dataLe false toPy (.str a) (.str b)
def rSortS (X : Cx) : List V → Hp → VK → Prop := fun vs H Q => ∃ L G a, ∃ ss : List Str, vs = [V.ref a] ∧ Fz L G H ∧ H a = some (SetSO X.prog X.w a ss) ∧
  ∀ ks : List Str, ks.Nodup → (∀ k, k ∈ ks ↔ k ∈ ss) → ∀ v G' H', Step L G H G' H' → ResF X.K G' H H' v (.lst ((ks.map D.str).mergeSort (PySem.W.dataLe false toPy))) → Q v H'
theorem sortOk_texts (ks : List Str) : sortOk (ks.map D.str) = true := by
  unfold sortOk
  rw [Bool.and_eq_true, Bool.and_eq_true, List.all_eq_true, List.all_eq_true]
  refine ⟨⟨fun x hx => ?_, ?_⟩, fun x hx => ?_⟩
  · rw [List.all_eq_true]
    intro y hy
    obtain ⟨a, _, rfl⟩ := List.mem_map.mp hx
    obtain ⟨b, _, rfl⟩ := List.mem_map.mp hy
    rfl
  · rw [Bool.or_eq_true]
    right
    rw [List.all_eq_true]
    intro y hy
    obtain ⟨b, _, rfl⟩ := List.mem_map.mp hy
    rfl
  · obtain ⟨a, _, rfl⟩ := List.mem_map.mp hx
    rfl
theorem vals_texts {P : Program} {w : World} : ∀ {us : List Value}, (∀ v ∈ us, ∃ k tk, v = Value.str k tk) → ∃ ks : List Str, Vals (ks.map V.str) us ∧ ks = us.map fun v => keyS (0, v)
  | [], _ => ⟨[], .nil, rfl⟩
  | v :: r, h => by
    obtain ⟨k, tk, rfl⟩ := h v List.mem_cons_self
    obtain ⟨ks, h1, h2⟩ := vals_texts (P := P) (w := w) fun u hu => h u (List.mem_cons_of_mem _ hu)
    exact ⟨k :: ks, .cons ⟨tk, rfl⟩ h1, by rw [h2]; rfl⟩
theorem repL_texts {K : PySem.W.Frag} {G : Hp} : ∀ ks : List Str, RepL K G (ks.map V.str) (ks.map D.str)
  | [] => .nil
  | k :: r => .cons (.str k) (repL_texts r)
theorem cr_sortedS (hu : X.A.units + 120 < cLine) (hc : X.calm = true) : CallR X (.builtin "sorted") (rSortS X) := by
  intro pins s σ H vs us Q I r h
  obtain ⟨L, G, a, ss, rfl, fz, ha, k⟩ := h
  rw [Vals.ref1 r]
  obtain ⟨o, es, ep, t, ho, hex, hd, g, nd, hm, hb, hf, hn, hr, hl⟩ := setSO_get I ha
  refine sorted_anyP (L := L) (G := G) (Pd := fun ds => ∃ ks : List Str, ds = ks.map D.str ∧ ks.Nodup ∧ (∀ k, k ∈ ks ↔ k ∈ ss) ∧ ks.length = es.size) hu (fun ds ⟨ks, e, _, _, hz⟩ => by subst e; exact ⟨sortOk_texts ks, by rw [List.length_map, hz]; exact fits_of_scanBound hb⟩) (fun R E hR => ?_) fun ds ⟨ks, e, h1, h2, _⟩ => by subst e; exact k ks h1 h2
  have hh : X.A.in1.handled = none := by have q := I.ok.hd hc; exact q
  refine collect_set (A := X.A.in1) hh ⟨o, ho, hex.1, hd⟩ hf hb hr hl fun s1 vs k1 hz g1 o1 pm => ?_
  obtain ⟨ks, hv, hk⟩ := vals_texts (P := X.prog) (w := X.w) (us := vs) fun v hv => by
    obtain ⟨e, he, q⟩ := List.mem_map.mp (pm.mem_iff.mp hv)
    obtain ⟨z, tk, h1, _⟩ := g e he
    exact ⟨z, tk, by rw [← q]; exact h1⟩
  have pk : ks.Perm (es.toList.map keyS) := by
    rw [hk]
    have q := pm.map fun v => keyS (0, v)
    rw [List.map_map] at q
    exact q
  refine hR s1 vs (ks.map V.str) (ks.map D.str) G H ⟨ks, rfl, pk.nodup_iff.mpr nd, fun z => pk.mem_iff.trans (hm z), by rw [pk.length_eq, List.length_map, Array.length_toList]⟩ ?_ hv (repL_texts ks) (Step.refl fz)
  exact I.call' (ch := []) o1 (Un.kept k1) (I.hok.kept k1) (by rw [g1]; exact I.bare) (fun _ z => nomatch z)
end
end PyI
end

section
set_option maxRecDepth 100000
set_option maxHeartbeats 4000000
namespace PyI
open PySem PySem.Spec PyProof.Rows L2
theorem uqS_mem (k : Str) : ∀ ss : List Str, k ∈ uqS ss ↔ k ∈ ss
  | [] => Iff.rfl
  | x :: r => by
    unfold uqS
    have ih := uqS_mem k r
    split
    · rename_i h
      rw [ih, List.mem_cons]
      exact ⟨.inr, fun z => z.elim (fun q => q ▸ h) id⟩
    · rw [List.mem_cons, List.mem_cons, ih]
theorem uqS_nodup : ∀ ss : List Str, (uqS ss).Nodup
  | [] => List.nodup_nil
  | x :: r => by
    unfold uqS
    split
    · exact uqS_nodup r
    · rename_i h
      exact List.nodup_cons.mpr ⟨fun z => h ((uqS_mem x r).1 z), uqS_nodup r⟩
theorem leT_eq (a b : Str) : PySem.W.dataLe false toPy (.str a) (.str b) = !decide (b.cps.toList < a.cps.toList) := by
  rw [PySem.W.dataLe_eq]
  show (!PySem.W.dataLt (.str b) (.str a)) = _
  rw [PySem.W.dataLt_str]
theorem sort_texts (ks : List Str) : (ks.map D.str).mergeSort (PySem.W.dataLe false toPy) = (ks.mergeSort leS).map D.str :=
  (List.map_mergeSort fun a _ b _ => by rw [leT_eq]; rfl).symm
theorem sort_uq {ks ss : List Str} (nd : ks.Nodup) (hm : ∀ k, k ∈ ks ↔ k ∈ ss) : (ks.map D.str).mergeSort (PySem.W.dataLe false toPy) = ((uqS ss).map D.str).mergeSort (PySem.W.dataLe false toPy) := by
  have hp : ks.Perm (uqS ss) := (List.perm_ext_iff_of_nodup nd (uqS_nodup ss)).mpr fun k => (hm k).trans (uqS_mem k ss).symm
  have tr : ∀ a b c : Str, leS a b = true → leS b c = true → leS a c = true := fun a b c h1 h2 => by
    unfold leS at *
    rw [Bool.not_eq_true', decide_eq_false_iff_not] at *
    exact List.not_lt.mpr (List.le_trans (List.not_lt.mp h1) (List.not_lt.mp h2))
  have tt : ∀ a b : Str, (leS a b || leS b a) = true := fun a b => by
    unfold leS
    rw [Bool.or_eq_true, Bool.not_eq_true', Bool.not_eq_true', decide_eq_false_iff_not, decide_eq_false_iff_not]
    by_cases c : b.cps.toList < a.cps.toList
    · right; exact fun d => List.lt_irrefl _ (List.lt_trans c d)
    · exact .inl c
  have : ks.mergeSort leS = (uqS ss).mergeSort leS := by
    refine List.Perm.eq_of_pairwise (le := fun a b => leS a b = true) (fun a b _ _ h1 h2 => ?_) (List.pairwise_mergeSort tr tt ks) (List.pairwise_mergeSort tr tt _) ((List.mergeSort_perm _ _).trans (hp.trans (List.mergeSort_perm _ _).symm))
    unfold leS at h1 h2
    rw [Bool.not_eq_true', decide_eq_false_iff_not] at h1 h2
    have e : a.cps.toList = b.cps.toList := List.le_antisymm (List.not_lt.mp h1) (List.not_lt.mp h2)
    cases a; cases b
    exact congrArg _ (Array.toList_inj.mp e)
  rw [sort_texts, sort_texts, this]
section
variable {X : Cx} {cls : List Cl} {a : PySem.Expr} {ea : EvD} {pos p pos' p' : Pos}
theorem boot_set_ : bootBuiltins "set" = some (.type "set") := by decide +kernel
theorem s_ssort (hu : X.A.units + 121 < cLine) (hc : X.calm = true) (hg : Gl X "sorted") (hm : X.mg "sorted" = none) (hg' : Gl X "set") (hm' : X.mg "set" = none) (ha : PE X a (tG X.K cls (PR X.K) ea)) (hn : notStar a = true) :
    PE X (.Call (.Name "sorted" p) [.Call (.Name "set" p') [a] [] pos'] [] pos) (tG X.K cls (PX X.K true) (evOp1 .ssort ea)) := by
  have hs : starEach [a] X.env = (false, eval a X.env) :: starEach [] X.env := by cases a <;> first | rfl | cases hn
  have p1 : PE X (.Call (.Name "set" p') [a] [] pos') _ := pe_callTy (cr_setS hc) hg' hm' boot_set_ (pa_cons ha pa_nil hs) (by decide) (by decide) hs rfl
  refine PE.imp (pe_callB (cr_sortedS (by omega) hc) hg hm boot_sorted_ (pa_cons p1 pa_nil)) fun σ H Q ⟨Γ, L, G, env, d, E, hl, k⟩ => ?_
  obtain ⟨x, hx, hs⟩ := op1_inv hl
  cases x with
  | lst xs =>
    have hs' : (match strsD xs with
      | some ss => if ss.length < 4000 then some (D.lst (((uqS ss).map D.str).mergeSort (PySem.W.dataLe false toPy))) else none
      | none => none) = some d := hs
    cases hx2 : strsD xs with
    | none => rw [hx2] at hs'; cases hs'
    | some ss =>
      rw [hx2] at hs'
      obtain ⟨hlt, rfl⟩ := ifs hs'
      refine ⟨Γ, L, G, env, _, E, hx, fun v G1 H1 s1 r1 => ?_⟩
      obtain ⟨a', vs, rfl, h, rr⟩ := r1
      rw [rr.strsD hx2] at h
      refine ⟨a', ss, rfl, h, by unfold scanBound; omega, fun q hq => ?_⟩
      have st := Step.new (o := SetSO X.prog X.w q ss) s1.fz hq
      refine ⟨_, G1, q, ss, rfl, st.fz, upd_same, fun ks nd hk v G' H' s r => ?_⟩
      rw [sort_uq nd hk] at r
      exact k v G' H' (s1.trans (st.trans s)) (ResF.back (s1.hh.trans st.hh) r)
  | _ => cases hs
end
end PyI
end

section
set_option maxRecDepth 100000
set_option maxHeartbeats 4000000
namespace PyI
open PySem PySem.Spec PyProof.Rows L2
theorem okIf_inv {α : Type} {b : Bool} {x y : α} (h : okIf b x = some y) : b = true ∧ x = y := by
  unfold okIf at h
  split at h
  · cases h; exact ⟨by assumption, rfl⟩
  · cases h
section
variable {S : Stat} {cf : CF} {cls : List Cl} {X : Cx} {e f g : E} {a x y z : PySem.Expr} {sc : Scope}
theorem snd_var {i : Nat} (C : CtxOk S cf X) (h : vName S X.env.scope i a = true) : Snd S.fds cf cls X (.var i) a := by
  cases a with
  | Name x p =>
    obtain ⟨h1, h2, h3, h4⟩ := nm_of C (show nmB S.N X.env.scope i x = true from h)
    exact {
      ns := rfl
      R := s_varR h1 h2 h3 h4
      V := fun q => s_varV h1 h2 h3 h4 (by simpa [vpos] using q)
      F := fun q => by cases q
      T := fun _ => tR_T (s_varR h1 h2 h3 h4) (by intro _; rfl)
      W := fun op l p q => by cases q
      A := fun q => by cases q }
  | _ => cases h
theorem snd_lit {d : D} (h : vLit d a = true) : Snd S.fds cf cls X (.lit d) a := by
  cases a with
  | Constant c j p =>
    have go : ∀ {v : V}, PE X (.Constant c j p) (tC v) → Rep X.K (fun _ => none) v d → isMut d = false → Snd S.fds cf cls X (.lit d) (.Constant c j p) := fun h1 h2 h3 =>
      Snd.of (bb := false) (s_const (G0 := fun _ => none) h1 h2) rfl (fun _ => .inr fun env d' q => by cases q; exact h3) (by intro _; rfl) (by intro _ _ _ q; cases q)
    cases d with
    | int i =>
      cases c with
      | int k =>
        have : i = k := of_decide_eq_true (show decide (i = k) = true from h)
        subst this
        exact go pe_int (.int _) rfl
      | _ => cases h
    | str i =>
      cases c with
      | str k =>
        have : i = k := of_decide_eq_true (show decide (i = k) = true from h)
        subst this
        exact go pe_str (.str _) rfl
      | _ => cases h
    | bl i =>
      cases c with
      | bool k =>
        have : i = k := by simpa [vLit] using h
        subst this
        exact go pe_bl (.bl _) rfl
      | _ => cases h
    | non =>
      cases c with
      | none => exact go pe_non .non rfl
      | _ => cases h
    | _ => cases c <;> cases h
  | _ => cases d <;> cases h
theorem snd_glb {x : Str} {d : D} (C : CtxOk S cf X) (h : vGlb S X.env.scope x d a = true) : Snd S.fds cf cls X (.glb x d) a := by
  cases a with
  | Name y p =>
    have h' : (decide (x = y) && glB X.env.scope y && !dbg y && (S.consts.any fun p => decide (p.1 = x) && dEqB p.2 d)) = true := h
    simp only [Bool.and_eq_true, decide_eq_true_eq, List.any_eq_true] at h'
    obtain ⟨⟨⟨rfl, h2⟩, h3⟩, q, hq, rfl, h4⟩ := h'
    obtain ⟨v, u, m, r, rp⟩ := C.cst q hq
    rw [dEqB_ok h4] at rp
    exact Snd.of (bb := false) (s_const (G0 := fun _ => none) (pe_glob (gl_of h2) m r (beq_false_of h3)) rp) rfl (fun q => by cases q) (by intro _; rfl) (by intro _ _ _ q; cases q)
  | _ => cases h
theorem snd_not (h : vNot a = some x) (s : Snd S.fds cf cls X e x) : PE X a (tG X.K cls (PV X.K) (evE cf (.op1 .not_ e))) ∧ PT X a (tT X.K cls (evE cf (.op1 .not_ e))) ∧ notStar a = true ∧ (∀ op l p, a ≠ .BoolOp op l p) ∧ isLc a = false := by
  unfold vNot at h
  split at h
  · obtain ⟨h1, rfl⟩ := okIf_inv h
    have hT := s.T (by simpa using h1)
    refine ⟨?_, s_notT hT, rfl, (by intro _ _ _ q; cases q), rfl⟩
    exact PE.imp (pe_not s.R) fun σ H Q ⟨Γ, L, G, env, d, E, hl, q⟩ => by
      obtain ⟨k', h1, h2⟩ := not_inv (ea := evE cf e) hl
      subst h2
      exact ⟨Γ, L, G, env, _, E, h1, fun v G' H' s r => ⟨k', r, q _ G' H' s (Rep.bl _)⟩⟩
  · cases h
theorem snd_op1 {o : Op1} (C : CtxOk S cf X) (h : vOp1 S X.env.scope o a = some x) (s : Snd S.fds cf cls X e x) : Snd S.fds cf cls X (.op1 o e) a := by
  by_cases hn : o = .not_
  · subst hn
    obtain ⟨h1, h2, h3, h4, h5⟩ := snd_not (show vNot a = some x from h) s
    exact Snd.ofT (bb := false) h1 h3 (fun q => by cases q) (fun _ => h2) (fun op l p q => absurd q (h4 op l p)) h5
  · by_cases hg : o = .neg
    · subst hg
      have h' : vNeg a = some x := h
      unfold vNeg at h'
      split at h'
      · cases h'
        exact Snd.of (bb := false) (s_neg s.R) rfl (fun q => by cases q) (by intro _; rfl) (by intro _ _ _ q; cases q)
      · cases h'
    · by_cases hsr : o = .srev
      · subst hsr
        have h' : vSrev S X.env.scope a = some x := h
        unfold vSrev at h'
        split at h'
        · obtain ⟨h1, rfl⟩ := okIf_inv h'
          simp only [Bool.and_eq_true, decide_eq_true_eq] at h1
          obtain ⟨⟨h1, rfl⟩, h3⟩ := h1
          obtain ⟨rfl, b2, b3, b4⟩ := bl_of C h1
          exact Snd.of (bb := true) (s_srev C.calm b2 b3 s.R h3) rfl (fun _ => .inl rfl) (by intro _; rfl) (by intro _ _ _ q; cases q)
        · cases h'
      by_cases hss : o = .ssort
      · subst hss
        have h' : vSst S X.env.scope a = some x := h
        unfold vSst at h'
        split at h'
        · obtain ⟨h1, rfl⟩ := okIf_inv h'
          simp only [Bool.and_eq_true] at h1
          obtain ⟨⟨h1, h2⟩, h3⟩ := h1
          obtain ⟨rfl, b2, b3, b4⟩ := bl_of C h1
          obtain ⟨rfl, c2, c3, c4⟩ := bl_of C h2
          exact Snd.of (bb := true) (s_ssort C.un C.calm b2 b3 c2 c3 s.R h3) rfl (fun _ => .inl rfl) (by intro _; rfl) (by intro _ _ _ q; cases q)
        · cases h'
      by_cases hsi : o = .sitems
      · subst hsi
        have h' : vSit S X.env.scope a = some x := h
        unfold vSit at h'
        split at h'
        · obtain ⟨h1, rfl⟩ := okIf_inv h'
          simp only [Bool.and_eq_true, decide_eq_true_eq] at h1
          obtain ⟨⟨⟨h1, rfl⟩, h3⟩, h4⟩ := h1
          obtain ⟨rfl, b2, b3, b4⟩ := bl_of C h1
          exact Snd.of (bb := true) (s_sitems C.un C.calm b2 b3 s.R h3 h4) rfl (fun _ => .inl rfl) (by intro _; rfl) (by intro _ _ _ q; cases q)
        · cases h'
      have h' : vC1 S X.env.scope o a = some x := by cases o <;> first | exact h | exact absurd rfl hn | exact absurd rfl hg | exact absurd rfl hsi | exact absurd rfl hsr | exact absurd rfl hss
      unfold vC1 at h'
      split at h'
      · split at h'
        · rename_i y hy
          obtain ⟨h1, rfl⟩ := okIf_inv h'
          obtain ⟨b1, b2, b3, b4⟩ := bl_of C h1
          refine Snd.of (bb := freshOp1 o) (call1_of C.un C.calm hy b1 b2 b3 b4 s.R s.ns) rfl (fun q => .inl ?_) (by intro _; rfl) (by intro _ _ _ q; cases q)
          cases o <;> first | rfl | cases q
        · cases h'
      · cases h'
theorem snd_op2 {o : Op2} (C : CtxOk S cf X) (h : vOp2 S X.env.scope o a = some (x, y)) (s : Snd S.fds cf cls X e x) (t : Snd S.fds cf cls X f y) : Snd S.fds cf cls X (.op2 o e f) a := by
  unfold vOp2 at h
  split at h
  · obtain ⟨h1, h2⟩ := okIf_inv h
    cases h2
    rw [Bool.and_eq_true, decide_eq_true_eq] at h1
    obtain ⟨rfl, h1⟩ := h1
    exact Snd.of (bb := false) (s_ix (by have := C.un; omega) s.R t.R h1) rfl (fun q => by cases q) (by intro _; rfl) (by intro _ _ _ q; cases q)
  · obtain ⟨h1, h2⟩ := okIf_inv h
    cases h2
    refine Snd.of (bb := freshOp2 o) (s_bin (opB_of C.un h1) s.R t.R) rfl (fun q => .inl ?_) (by intro _; rfl) (by intro _ _ _ q; cases q)
    cases o <;> first | rfl | cases q
  · obtain ⟨h1, h2⟩ := okIf_inv h
    cases h2
    rw [Bool.and_eq_true] at h1
    obtain ⟨c1, c2⟩ := opC_of (X := X) C.un h1.1
    refine Snd.ofT (bb := freshOp2 o) (s_cmp c1 s.R t.R (behind_of h1.2)) rfl (fun q => .inl ?_) (fun _ => s_cmpT c2 c1 s.R t.R (behind_of h1.2)) (by intro _ _ _ q; cases q)
    cases o <;> first | rfl | cases q
  · split at h
    · rename_i w hw
      obtain ⟨h1, h2⟩ := okIf_inv h
      cases h2
      obtain ⟨b1, b2, b3, b4⟩ := bl_of C h1
      refine Snd.of (bb := false) (call2_of C.calm hw b1 b2 b3 b4 s.R s.ns t.R t.ns) rfl (fun q => ?_) (by intro _; rfl) (by intro _ _ _ q; cases q)
      cases o <;> first | (cases q; done) | (cases hw; done)
    · cases h
  · obtain ⟨h1, h2⟩ := okIf_inv h
    cases h2
    rw [Bool.and_eq_true, Bool.and_eq_true, Bool.or_eq_true, Bool.and_eq_true, Bool.and_eq_true, decide_eq_true_eq, decide_eq_true_eq, decide_eq_true_eq, decide_eq_true_eq] at h1
    obtain ⟨⟨h1, h2⟩, h3⟩ := h1
    rcases h1 with ⟨rfl, rfl⟩ | ⟨rfl, rfl⟩
    · exact Snd.of (bb := false) (s_join s.R t.R t.ns h2 h3) rfl (fun q => by cases q) (by intro _; rfl) (by intro _ _ _ q; cases q)
    · exact Snd.of (bb := false) (s_get1 (by have := C.un; omega) s.R t.R h2 t.ns h3) rfl (fun q => by cases q) (by intro _; rfl) (by intro _ _ _ q; cases q)
  · cases h
theorem snd_isi {t : Ty} (C : CtxOk S cf X) (h : vIsi S X.env.scope t a = some x) (s : Snd S.fds cf cls X e x) : Snd S.fds cf cls X (.isi e t) a := by
  unfold vIsi at h
  split at h
  · obtain ⟨h1, rfl⟩ := okIf_inv h
    rw [Bool.and_eq_true] at h1
    obtain ⟨b1, b2, b3, b4⟩ := bl_of C h1.1
    obtain ⟨c1, c2, c3, c4⟩ := bl_of C h1.2
    refine Snd.of (bb := false) (s_isi b2 b3 b1 c2 c3 c1 s.R s.ns c4 (by rw [c1]; cases t <;> decide)) rfl (fun _ => .inr fun env d q => ?_) (by intro _; rfl) (by intro _ _ _ q; cases q)
    have q' : evIsi t (evE cf e) env = some d := q
    unfold evIsi at q'
    split at q'
    · cases q'; rfl
    · cases q'
  · cases h
theorem snd_tup {es : List E} {xs : List PySem.Expr} (h : vTup a = some xs) (s : SndL S.fds cf cls X es xs) (hv : vposs cls es = true) (hl : es.length ≤ 1000) : Snd S.fds cf cls X (.tup es) a := by
  unfold vTup at h
  split at h
  · cases h
    refine Snd.of (bb := false) (s_tup (s.all hv) fun env ds q => ?_) rfl (fun _ => .inr fun env d q => ?_) (by intro _; rfl) (by intro _ _ _ q; cases q)
    · rw [evalEs_len q]; exact Nat.le_trans hl (by decide)
    · have q' : evTup (fun env => evalEs cf env es) env = some d := q
      unfold evTup at q'
      split at q'
      · cases q'; rfl
      · cases q'
  · cases h
theorem snd_lst {es : List E} {xs : List PySem.Expr} (h : vLst a = some xs) (s : SndL S.fds cf cls X es xs) (hv : vposs cls es = true) (hl : es.length ≤ 1000) : Snd S.fds cf cls X (.lst es) a := by
  unfold vLst at h
  split at h
  · cases h
    refine Snd.of (bb := true) (s_lst (s.all hv) fun env ds q => ?_) rfl (fun _ => .inl rfl) (by intro _; rfl) (by intro _ _ _ q; cases q)
    rw [evalEs_len q]; exact Nat.le_trans hl (by decide)
  · cases h
theorem snd_dct (h : vDct0 a = true) : Snd S.fds cf cls X (.dct [] []) a := by
  unfold vDct0 at h
  split at h
  · exact Snd.of (bb := true) s_dnew rfl (fun _ => .inl rfl) (by intro _; rfl) (by intro _ _ _ q; cases q)
  · cases h
theorem evDct1_eq {k v : E} : evE cf (.dct [k] [v]) = evDct1 (evE cf k) (evE cf v) := by
  funext env
  unfold evDct1 evE
  rw [evalE]
  simp only [evalEs]
  cases evalE cf env k with
  | none => rfl
  | some kd =>
    cases evalE cf env v with
    | none => rfl
    | some vd =>
      simp only []
      unfold dctOf
      cases keyOf kd with
      | none => rfl
      | some k => rfl
theorem snd_dct1 {k v : E} (h : vDct1 a = some (x, y)) (s : Snd S.fds cf cls X k x) (t : Snd S.fds cf cls X v y) (hv : vpos cls v = true) : Snd S.fds cf cls X (.dct [k] [v]) a := by
  unfold vDct1 at h
  split at h
  · cases h
    have pe := s_dct1 (pos := by assumption) s.R (t.V hv)
    rw [← evDct1_eq] at pe
    exact Snd.of (bb := true) pe rfl (fun _ => .inl rfl) (by intro _; rfl) (by intro _ _ _ q; cases q)
  · cases h
theorem snd_slice {lo hi : Option E} {l u : Option PySem.Expr} (h : vSlice a = some (x, l, u)) (s : Snd S.fds cf cls X e x) (hl : PO X l (tGO X.K cls fun env => evalO cf env lo)) (hu : PO X u (tGO X.K cls fun env => evalO cf env hi)) : Snd S.fds cf cls X (.slice e lo hi) a := by
  unfold vSlice at h
  split at h
  · cases h
    exact Snd.of (bb := true) (s_slice s.R hl hu) rfl (fun _ => .inl rfl) (by intro _; rfl) (by intro _ _ _ q; cases q)
  · cases h
theorem snd_rev (h : vRev a = some x) (s : Snd S.fds cf cls X e x) : Snd S.fds cf cls X (.rev e) a := by
  unfold vRev at h
  split at h
  · cases h
    exact Snd.of (bb := true) (s_rvs s.R) rfl (fun _ => .inl rfl) (by intro _; rfl) (by intro _ _ _ q; cases q)
  · cases h
theorem and_bl {ea eb : EvD} {env : PyI.Env} {d : D} (h : evAnd ea eb env = some d) : isMut d = false := by
  rcases and_inv h with ⟨_, rfl⟩ | ⟨_, _, _, rfl⟩ <;> rfl
theorem or_bl {ea eb : EvD} {env : PyI.Env} {d : D} (h : evOr ea eb env = some d) : isMut d = false := by
  rcases or_inv h with ⟨_, rfl⟩ | ⟨_, _, _, rfl⟩ <;> rfl
theorem snd_and (h : vAnd a = some (x, y)) (s : Snd S.fds cf cls X e x) (t : Snd S.fds cf cls X f y) (hv : vpos cls e = true) (hv' : vpos cls f = true) : Snd S.fds cf cls X (.and_ e f) a := by
  unfold vAnd at h
  split at h
  · rename_i y0 r p
    obtain ⟨h1, h2⟩ := okIf_inv h
    rw [Bool.and_eq_true] at h1
    cases r with
    | nil =>
      cases h2
      have hw : PW X (.BoolOp .And [x, y0] p) (tT X.K cls (evE cf (.and_ e f))) := s_andW (s.T (by simpa using h1.1)) (pw_and1 (t.T (by simpa using h1.2)))
      exact Snd.ofT (bb := false) (s_andV (s.V hv) (pe_one (t.V hv'))) rfl (fun _ => .inr fun env d q => and_bl (ea := evE cf e) (eb := evE cf f) q) (fun _ => hw.pt) (by intro _ _ _ q; cases q; exact hw)
    | cons z r =>
      cases h2
      have hw : PW X (.BoolOp .And (x :: y0 :: z :: r) p) (tT X.K cls (evE cf (.and_ e f))) := s_andW (s.T (by simpa using h1.1)) (t.W _ _ _ rfl)
      exact Snd.ofT (bb := false) (s_andV (s.V hv) (t.V hv')) rfl (fun _ => .inr fun env d q => and_bl (ea := evE cf e) (eb := evE cf f) q) (fun _ => hw.pt) (by intro _ _ _ q; cases q; exact hw)
  · cases h
theorem snd_or (h : vOr a = some (x, y)) (s : Snd S.fds cf cls X e x) (t : Snd S.fds cf cls X f y) (hv : vpos cls e = true) (hv' : vpos cls f = true) : Snd S.fds cf cls X (.or_ e f) a := by
  unfold vOr at h
  split at h
  · rename_i y0 r p
    obtain ⟨h1, h2⟩ := okIf_inv h
    rw [Bool.and_eq_true] at h1
    cases r with
    | nil =>
      cases h2
      have hw : PW X (.BoolOp .Or [x, y0] p) (tT X.K cls (evE cf (.or_ e f))) := s_orW (s.T (by simpa using h1.1)) (pw_or1 (t.T (by simpa using h1.2)))
      exact Snd.ofT (bb := false) (s_orV (s.V hv) (pe_one (t.V hv'))) rfl (fun _ => .inr fun env d q => or_bl (ea := evE cf e) (eb := evE cf f) q) (fun _ => hw.pt) (by intro _ _ _ q; cases q; exact hw)
    | cons z r =>
      cases h2
      have hw : PW X (.BoolOp .Or (x :: y0 :: z :: r) p) (tT X.K cls (evE cf (.or_ e f))) := s_orW (s.T (by simpa using h1.1)) (t.W _ _ _ rfl)
      exact Snd.ofT (bb := false) (s_orV (s.V hv) (t.V hv')) rfl (fun _ => .inr fun env d q => or_bl (ea := evE cf e) (eb := evE cf f) q) (fun _ => hw.pt) (by intro _ _ _ q; cases q; exact hw)
  · cases h
theorem snd_ite (h : vIte a = some (x, y, z)) (s : Snd S.fds cf cls X e x) (t : Snd S.fds cf cls X f y) (u : Snd S.fds cf cls X g z) (hv : vpos cls f = true) (hv' : vpos cls g = true) : Snd S.fds cf cls X (.ite e f g) a := by
  unfold vIte at h
  split at h
  · obtain ⟨h1, h2⟩ := okIf_inv h
    cases h2
    have hT := s.T (by simpa using h1)
    have pv := s_ite (bb := false) (pos := by assumption) hT (t.V hv) (u.V hv')
    exact {
      ns := rfl
      R := toR pv
      V := fun _ => pv
      F := fun q => by
        have q' : (frE S.fds f && frE S.fds g) = true := q
        rw [Bool.and_eq_true] at q'
        exact s_ite (bb := true) hT (t.F q'.1) (u.F q'.2)
      T := fun q => by cases q
      W := fun _ _ _ q => by cases q
      A := fun q => by cases q }
  · cases h
theorem snd_cmp2 {o o' : Op2} (C : CtxOk S cf X) (h : vCmp2 o o' a = some (x, y, z)) (s : Snd S.fds cf cls X e x) (t : Snd S.fds cf cls X f y) (u : Snd S.fds cf cls X g z) : Snd S.fds cf cls X (.cmp2 o o' e f g) a := by
  unfold vCmp2 at h
  split at h
  · obtain ⟨h1, h2⟩ := okIf_inv h
    cases h2
    rw [Bool.and_eq_true, Bool.and_eq_true] at h1
    obtain ⟨c1, c2⟩ := opC_of (X := X) C.un h1.1.1
    obtain ⟨d1, d2⟩ := opC_of (X := X) C.un h1.1.2
    refine Snd.ofT (bb := freshOp2 o') (s_chain c2 c1 d1 s.R t.R u.R (last_of h1.2)) rfl (fun q => .inr fun env d q => ?_) (fun _ => s_chainT c2 d2 c1 d1 s.R t.R u.R (last_of h1.2)) (by intro _ _ _ q; cases q)
    have q' : ev3 o o' (evE cf e) (evE cf f) (evE cf g) env = some d := q
    unfold ev3 at q'
    split at q'
    · split at q'
      · split at q'
        · split at q'
          · exact cmp_bool h1.1.2 q'
          · cases q'
        · cases q'; rfl
        · cases q'
      · cases q'
    · cases q'
  · cases h
theorem snd_get2 (C : CtxOk S cf X) (h : vGet2 a = some (x, y, z)) (s : Snd S.fds cf cls X e x) (t : Snd S.fds cf cls X f y) (u : Snd S.fds cf cls X g z) (hv : vpos cls g = true) : Snd S.fds cf cls X (.get2 e f g) a := by
  unfold vGet2 at h
  split at h
  · obtain ⟨h1, h2⟩ := okIf_inv h
    cases h2
    rw [Bool.and_eq_true, Bool.and_eq_true, decide_eq_true_eq] at h1
    obtain ⟨⟨rfl, h2⟩, h3⟩ := h1
    exact Snd.of (bb := false) (s_get2 (by have := C.un; omega) s.R t.R (u.V hv) h2 t.ns u.ns h3) rfl (fun q => by cases q) (by intro _; rfl) (by intro _ _ _ q; cases q)
  · cases h
theorem snd_call {i : Nat} {fd : FDef} {es : List E} {xs : List PySem.Expr} (C : CtxOk S cf X) (hf : S.fds[i]? = some fd) (h : vCall X.env.scope fd a = some xs) (s : SndL S.fds cf cls X es xs) (hp : posOk cls fd.cls es = true) (hio : fd.io = []) (hno : noO fd.cls = true) : Snd S.fds cf cls X (.call i es) a := by
  unfold vCall at h
  split at h
  · obtain ⟨h1, rfl⟩ := okIf_inv h
    simp only [Bool.and_eq_true, decide_eq_true_eq] at h1
    obtain ⟨⟨⟨⟨h1, h2⟩, h3⟩, h4⟩, h5⟩ := h1
    obtain ⟨F1, F2⟩ := C.fns i fd hf
    refine Snd.of (bb := fd.fresh) (s_call F2 (gl_of h2) h1 F1 hio hno h4 h5 (s.pos hp) (fun env ds q => by rw [evalEs_len q, s.len]) (beq_false_of h3) s.ns) rfl (fun q => .inl ?_) (by intro _; rfl) (by intro _ _ _ q; cases q)
    have q' : (match S.fds[i]? with | some fd => fd.fresh | none => false) = true := q
    rw [hf] at q'
    exact q'
  · cases h
end
/-! comprehensions -/
section
variable {S : Stat} {cf : CF} {cls : List Cl} {X : Cx} {a iter tg' : PySem.Expr} {m : Bool}
def evSrc (cf : CF) (io : ItOp) (src : List E) : PyI.Env → Option (List D) := fun env => match evalEs cf env src with
  | some ss => iterD io ss
  | none => none
theorem evSrc1 {io : ItOp} {e : E} : evSrc cf io [e] = evIt1 io (evE cf e) := by
  funext env
  show (match evCons (evE cf e) (fun _ => some []) env with | some ss => iterD io ss | none => none) = _
  unfold evCons evIt1
  cases evE cf e env <;> rfl
theorem evSrc2 {io : ItOp} {e f : E} : evSrc cf io [e, f] = evIt2 io (evE cf e) (evE cf f) := by
  funext env
  show (match evCons (evE cf e) (evCons (evE cf f) fun _ => some []) env with | some ss => iterD io ss | none => none) = _
  unfold evCons evIt2
  cases evE cf e env with
  | none => rfl
  | some x => simp only []; cases evE cf f env <;> rfl
theorem evSrc3 {io : ItOp} {e f g : E} : evSrc cf io [e, f, g] = evIt3 io (evE cf e) (evE cf f) (evE cf g) := by
  funext env
  show (match evCons (evE cf e) (evCons (evE cf f) (evCons (evE cf g) fun _ => some [])) env with | some ss => iterD io ss | none => none) = _
  unfold evCons evIt3
  cases evE cf e env with
  | none => rfl
  | some x =>
    simp only []
    cases evE cf f env with
    | none => rfl
    | some y => simp only []; cases evE cf g env <;> rfl
theorem evSrcD {io : ItOp} {i : Nat} (h : ioD io = true) : evSrc cf io [.var i] = evDic io i := by
  funext env
  rw [evSrc1]
  unfold evIt1 evDic evE
  show (match look env i with | some x => iterD io [x] | none => none) = _
  cases look env i with
  | none => rfl
  | some x => cases x <;> first | rfl | (cases io <;> first | rfl | cases h)
/-- a walk that is no dict's -/
theorem it_of {io : ItOp} {src : List E} {xs : List PySem.Expr} (C : CtxOk S cf X) (h : vIter S X.env.scope io iter = some xs) (hd : ioD io = false) (s : SndL S.fds cf cls X src xs) (hsrc : ∀ e x, e ∈ src → Snd S.fds cf cls X e x → PE X x (tSrc X.K m cls (evE cf e))) (hpr : ioPr io = true → ∃ elts k p, tg' = .Tuple elts k p) :
    PI X tg' iter (tIt X.K (ioPr io) m cls (evSrc cf io src)) := by
  cases io with
  | of =>
    obtain ⟨h1, rfl⟩ := okIf_inv (show okIf (notSet iter) [iter] = some xs from h)
    cases s with
    | @cons e _ _ _ s t =>
      cases t
      rw [evSrc1]
      exact i_of (hsrc e _ List.mem_cons_self s)
  | range =>
    simp only [vIter] at h
    split at h
    · obtain ⟨h1, rfl⟩ := okIf_inv h
      obtain ⟨rfl, b2, b3, b4⟩ := bl_of C h1
      cases s with
      | cons s t =>
        cases t
        rw [evSrc1]
        exact i_range1 b2 b3 s.R s.ns
    · obtain ⟨h1, rfl⟩ := okIf_inv h
      obtain ⟨rfl, b2, b3, b4⟩ := bl_of C h1
      cases s with
      | cons s t =>
        cases t with
        | cons t u =>
          cases u
          rw [evSrc2]
          exact i_range2 b2 b3 s.R s.ns t.R t.ns
    · obtain ⟨h1, rfl⟩ := okIf_inv h
      obtain ⟨rfl, b2, b3, b4⟩ := bl_of C h1
      cases s with
      | cons s t =>
        cases t with
        | cons t u =>
          cases u with
          | cons u w =>
            cases w
            rw [evSrc3]
            exact i_range3 b2 b3 s.R s.ns t.R t.ns u.R u.ns
    · cases h
  | enum =>
    obtain ⟨elts, k, p, rfl⟩ := hpr rfl
    simp only [vIter] at h
    split at h
    · obtain ⟨h1, rfl⟩ := okIf_inv h
      obtain ⟨rfl, b2, b3, b4⟩ := bl_of C h1
      cases s with
      | @cons e _ _ _ s t =>
        cases t
        rw [evSrc1]
        exact i_enum b2 b3 (hsrc e _ List.mem_cons_self s) s.ns
    · cases h
  | rev =>
    simp only [vIter] at h
    split at h
    · obtain ⟨h1, rfl⟩ := okIf_inv h
      obtain ⟨rfl, b2, b3, b4⟩ := bl_of C h1
      cases s with
      | @cons e _ _ _ s t =>
        cases t
        rw [evSrc1]
        exact i_rev b2 b3 (hsrc e _ List.mem_cons_self s) s.ns
    · cases h
  | zip =>
    obtain ⟨elts, k, p, rfl⟩ := hpr rfl
    simp only [vIter] at h
    split at h
    · obtain ⟨h1, rfl⟩ := okIf_inv h
      obtain ⟨rfl, b2, b3, b4⟩ := bl_of C h1
      cases s with
      | @cons e _ _ _ s t =>
        cases t with
        | @cons f _ _ _ t u =>
          cases u
          rw [evSrc2]
          exact i_zip b2 b3 (hsrc e _ List.mem_cons_self s) s.ns (hsrc f _ (by simp) t) t.ns
    · cases h
  | _ => cases hd
/-- a dict's -/
theorem itD_of {io : ItOp} {i : Nat} {x : PySem.Expr} (C : CtxOk S cf X) (h : vIter S X.env.scope io iter = some [x]) (hd : ioD io = true) (hv : vName S X.env.scope i x = true) (hpr : ioPr io = true → ∃ elts k p, tg' = .Tuple elts k p) :
    PI X tg' iter (tItD X.K (ioPr io) m cls io i) := by
  cases x with
  | Name y q =>
    obtain ⟨h1, h2, h3, h4⟩ := nm_of C (show nmB S.N X.env.scope i y = true from hv)
    cases io with
    | keys =>
      obtain ⟨_, e⟩ := okIf_inv (show okIf (notSet iter) [iter] = some [.Name y q] from h)
      cases e
      exact i_keys h1 h2 h3 h4
    | items =>
      obtain ⟨elts, k, p, rfl⟩ := hpr rfl
      simp only [vIter] at h
      split at h
      · obtain ⟨c, e⟩ := okIf_inv h
        cases e
        rw [Bool.and_eq_true, Bool.and_eq_true, decide_eq_true_eq] at c
        obtain ⟨⟨rfl, c2⟩, c3⟩ := c
        exact i_items h1 h2 h3 h4 c2 c3
      · cases h
    | vals =>
      simp only [vIter] at h
      split at h
      · obtain ⟨c, e⟩ := okIf_inv h
        cases e
        rw [Bool.and_eq_true, Bool.and_eq_true, decide_eq_true_eq] at c
        obtain ⟨⟨rfl, c2⟩, c3⟩ := c
        exact i_vals h1 h2 h3 h4 c2 c3
      · cases h
    | _ => cases hd
  | _ => cases hv
theorem tup_of {N : List Str} {sc : Scope} {tg : Tg} (h : tgB N sc tg tg' = true) (ht : isTupTg tg = true) : ∃ elts k p, tg' = .Tuple elts k p := by
  cases tg with
  | name i => cases ht
  | tup is =>
    cases tg' with
    | Tuple es k p => exact ⟨_, _, _, rfl⟩
    | _ => cases h
theorem pts_of {conds : List E} {ifs : List PySem.Expr} (s : SndL S.fds cf cls X conds ifs) (h : noIfs ifs = true) : PTs X ifs (tTs X.K cls fun env => evalCs cf env conds) := by
  unfold noIfs at h
  rw [Bool.and_eq_true, decide_eq_true_eq] at h
  cases s with
  | nil =>
    refine ⟨fun pins s σ H Q I q => pts_nil.run pins s σ H Q I ?_⟩
    obtain ⟨Γ, L, G, env, b, E, hl, k⟩ := q
    cases hl
    exact k G H (Step.refl E.fz)
  | @cons e a es as s t =>
    cases t with
    | nil =>
      have hT := s.T (by have := List.all_eq_true.mp h.1 a List.mem_cons_self; simpa using this)
      refine ⟨fun pins s σ H Q I q => (pts_one hT).run pins s σ H Q I ?_⟩
      obtain ⟨Γ, L, G, env, b, E, hl, k⟩ := q
      have hl' : (match evalE cf env e with | some (.bl true) => some true | some (.bl false) => some false | _ => none) = some b := hl
      split at hl'
      · cases hl'; exact ⟨Γ, L, G, env, true, E, by assumption, k⟩
      · cases hl'; exact ⟨Γ, L, G, env, false, E, by assumption, k⟩
      · cases hl'
    | cons t u => have := h.2; simp at this
theorem own_ix (N : List Str) (tg : Tg) : (tgOwn N tg).map (·.2) = ixT tg := by
  cases tg with
  | name i => rfl
  | tup is =>
    show (is.map fun i => (N.getD i Str.empty, i)).map (·.2) = is
    rw [List.map_map]
    exact (List.map_congr_left fun _ _ => rfl).trans (List.map_id _)
theorem Snd.ofLc {e : E} {a : PySem.Expr} (h : PE X a (tG X.K cls (PX X.K true) (evE cf e))) (ns : notStar a = true) (ht : ∀ whole, isTrue a X.env whole = (do let v ← whole; standAt a.pos; holding [v] (truthy v))) (hw : ∀ op l p, a ≠ .BoolOp op l p)
    (ha : ∀ (i : Nat) (y : Str) (py spos : Pos), X.N[i]? = some y → X.env.scope.names.lookup y = some .local → swapsWith a (some (.Name y py)) spos.line X.env = pure true → PS X (.Assign [.Name y py] a spos) (tAsg (tG X.K cls (PX X.K true) (evE cf e)) (gName i))) : Snd S.fds cf cls X e a where
  ns := ns
  R := toR (toV h)
  V := fun _ => toV h
  F := fun q => h
  T := fun _ => tR_T (toR (toV h)) ht
  W := fun op l p q => absurd q (hw op l p)
  A := fun _ => ha
theorem evComp_eq {elt : E} {tg : Tg} {io : ItOp} {src conds : List E} : evE cf (.comp elt tg io src conds) = evComp (fun env => evalCs cf env conds) (evE cf elt) tg (evSrc cf io src) := by
  funext env
  unfold evComp evSrc evE
  rw [evalE]
  cases evalEs cf env src with
  | none => rfl
  | some ss =>
    simp only []
    cases iterD io ss with
    | none => rfl
    | some xs => rfl
theorem snd_comp {elt : E} {tg : Tg} {io : ItOp} {src conds : List E} {elt' : PySem.Expr} {ifs xs : List PySem.Expr} {scope : Scope} (C : CtxOk S cf X) (h : vComp a = some (elt', tg', iter, ifs, scope)) (hi : vIter S X.env.scope io iter = some xs) (ss : SndL S.fds cf cls X src xs)
    (h1 : notSet iter = true) (h2 : ioPr io = true → isTupTg tg = true) (h3 : ioD io = true → isVarN cls src = true) (h4 : blkC S.N X.env.scope scope (tgOwn S.N tg) = true) (h5 : tgB S.N scope tg tg' = true) (h6 : tgF cls (ixT tg) = true) (h7 : noIfs ifs = true)
    (hc : ∀ (s : Shared) (H : Hp) (K : Addr) (cl : List (Str × Addr)) (fp : List Addr), SndL S.fds cf (clsT cls tg) (X.blk s H scope (compEnvC scope cl K X.env) fp) conds ifs)
    (he : ∀ (s : Shared) (H : Hp) (K : Addr) (cl : List (Str × Addr)) (fp : List Addr), Snd S.fds cf (clsT cls tg) (X.blk s H scope (compEnvC scope cl K X.env) fp) elt elt') (h8 : vpos (clsT cls tg) elt = true)
    (hv : ioD io = true → ∀ i x, src = [.var i] → xs = [x] → vName S X.env.scope i x = true) : Snd S.fds cf cls X (.comp elt tg io src conds) a := by
  have P : LcParts X cls elt' tg' ifs scope tg (tgOwn S.N tg) (fun env => evalCs cf env conds) (evE cf elt) := {
    calm := C.calm
    nd := C.nd
    ok := blkOk_by (by rw [C.N]; exact h4)
    own := own_ix _ _
    g := fun s H K cl fp => pg_of (X := X.blk s H scope (compEnvC scope cl K X.env) fp) C.N C.nd C.calm (fun y k q hk => relS_keep q hk) (fun y q => by show (scope.names.lookup y == some .cell) = true; rw [q]; rfl) h5
    t := fun s H K cl fp => pts_of (hc s H K cl fp) h7
    e := fun s H K cl fp => (he s H K cl fp).V h8
    f := h6 }
  have hpr : ioPr io = true → ∃ elts k p, tg' = .Tuple elts k p := fun q => tup_of h5 (h2 q)
  unfold vComp at h
  split at h
  · cases h
    by_cases hd : ioD io = true
    · have hvn := h3 hd
      unfold isVarN at hvn
      split at hvn
      · rename_i i
        cases ss with
        | cons s t =>
          cases t
          have pe := s_compD (pos := by assumption) P h2 (itD_of C hi hd (hv hd i _ rfl rfl) hpr) (folded_of h1) (of_decide_eq_true hvn)
          rw [← evSrcD (cf := cf) hd, ← evComp_eq] at pe
          refine Snd.ofLc pe rfl (by intro _; rfl) (by intro _ _ _ q; cases q) fun i' y py spos g1 g2 g3 => ?_
          have pa := a_compD (py := py) (spos := spos) P h2 (itD_of C hi hd (hv hd i _ rfl rfl) hpr) (folded_of h1) (of_decide_eq_true hvn) g1 g2 g3
          rw [← evSrcD (cf := cf) hd, ← evComp_eq] at pa
          exact pa
      · cases hvn
    · have pe := s_comp (pos := by assumption) P h2 (it_of (m := true) C hi (by simpa using hd) ss (fun e x _ s => src_T s.R) hpr) (folded_of h1)
      rw [← evComp_eq] at pe
      refine Snd.ofLc pe rfl (by intro _; rfl) (by intro _ _ _ q; cases q) fun i' y py spos g1 g2 g3 => ?_
      have pa := a_comp (py := py) (spos := spos) P h2 (it_of (m := true) C hi (by simpa using hd) ss (fun e x _ s => src_T s.R) hpr) (folded_of h1) g1 g2 g3
      rw [← evComp_eq] at pa
      exact pa
  · cases h
end
theorem tT_toB {K : PySem.W.Frag} {cls : List Cl} {ev : EvD} (σ : L2.St) (H : Hp) (Q : Bool → Hp → Prop) (h : tT K cls ev σ H Q) : tT K (toB cls) ev σ H Q := by
  obtain ⟨Γ, L, G, env, d, E, hv, k⟩ := h
  exact ⟨_, [], G, env, d, E.rebase, hv, k⟩
theorem Snd.ofB {fds : List FDef} {cf : CF} {cls : List Cl} {X : Cx} {elt : E} {tg : Tg} {io : ItOp} {src conds : List E} {a : PySem.Expr} (h : Snd fds cf (toB cls) X (.comp elt tg io src conds) a) : Snd fds cf cls X (.comp elt tg io src conds) a where
  ns := h.ns
  R := PE.imp h.R tG_toB
  V := fun _ => PE.imp (h.V rfl) tG_toB
  F := fun q => PE.imp (h.F q) tG_toB
  T := fun q => PT.imp (h.T q) tT_toB
  W := fun op l p q => ⟨fun wh pins s σ H Q I z => (h.W op l p q).run wh pins s σ H Q I (tT_toB σ H Q z)⟩
  A := fun q i y py spos g1 g2 g3 => ⟨fun pins s σ H D I z => (h.A q i y py spos g1 g2 g3).run pins s σ H D I (tG_toB σ H _ z)⟩
theorem Snd.ofCB {fds : List FDef} {cf : CF} {cls : List Cl} {X : Cx} {elt : E} {tg : Tg} {io : ItOp} {src conds : List E} {a : PySem.Expr} (h : Snd fds cf (cB io cls) X (.comp elt tg io src conds) a) : Snd fds cf cls X (.comp elt tg io src conds) a := by
  unfold cB at h
  split at h
  · exact h.ofB
  · exact h
/-! all expressions -/
mutual
theorem chkE_ok {S : Stat} {cf : CF} : ∀ (e : E) {cls : List Cl} {X : Cx} {a : PySem.Expr}, CtxOk S cf X → chkE S X.env.scope cls e a = true → Snd S.fds cf cls X e a
  | .var i, _, _, _, C, h => snd_var C h
  | .lit d, _, _, _, _, h => snd_lit h
  | .glb x d, _, _, _, C, h => snd_glb C h
  | .op1 o e, cls, X, a, C, h => by
    rw [chkE] at h
    split at h
    · exact snd_op1 C (by assumption) (chkE_ok e C h)
    · cases h
  | .op2 o e f, cls, X, a, C, h => by
    rw [chkE] at h
    split at h
    · rw [Bool.and_eq_true] at h
      exact snd_op2 C (by assumption) (chkE_ok e C h.1) (chkE_ok f C h.2)
    · cases h
  | .isi e t, cls, X, a, C, h => by
    rw [chkE] at h
    split at h
    · exact snd_isi C (by assumption) (chkE_ok e C h)
    · cases h
  | .tup es, cls, X, a, C, h => by
    rw [chkE] at h
    split at h
    · rw [Bool.and_eq_true, Bool.and_eq_true, decide_eq_true_eq] at h
      exact snd_tup (by assumption) (chkEs_ok es C h.1.1) h.1.2 h.2
    · cases h
  | .lst es, cls, X, a, C, h => by
    rw [chkE] at h
    split at h
    · rw [Bool.and_eq_true, Bool.and_eq_true, decide_eq_true_eq] at h
      exact snd_lst (by assumption) (chkEs_ok es C h.1.1) h.1.2 h.2
    · cases h
  | .dct [] [], cls, X, a, C, h => by
    rw [chkE] at h
    exact snd_dct h
  | .dct [k] [v], cls, X, a, C, h => by
    rw [chkE] at h
    split at h
    · rw [Bool.and_eq_true, Bool.and_eq_true] at h
      exact snd_dct1 (by assumption) (chkE_ok k C h.1.1) (chkE_ok v C h.1.2) h.2
    · cases h
  | .dct [] (_ :: _), cls, X, a, C, h => by cases h
  | .dct [_] [], cls, X, a, C, h => by cases h
  | .dct [_] (_ :: _ :: _), cls, X, a, C, h => by cases h
  | .dct (_ :: _ :: _) _, cls, X, a, C, h => by cases h
  | .slice e lo hi, cls, X, a, C, h => by
    rw [chkE] at h
    split at h
    · rw [Bool.and_eq_true, Bool.and_eq_true] at h
      exact snd_slice (by assumption) (chkE_ok e C h.1.1) (chkO_ok lo C h.1.2) (chkO_ok hi C h.2)
    · cases h
  | .rev e, cls, X, a, C, h => by
    rw [chkE] at h
    split at h
    · exact snd_rev (by assumption) (chkE_ok e C h)
    · cases h
  | .and_ e f, cls, X, a, C, h => by
    rw [chkE] at h
    split at h
    · rw [Bool.and_eq_true, Bool.and_eq_true, Bool.and_eq_true] at h
      exact snd_and (by assumption) (chkE_ok e C h.1.1.1) (chkE_ok f C h.1.1.2) h.1.2 h.2
    · cases h
  | .or_ e f, cls, X, a, C, h => by
    rw [chkE] at h
    split at h
    · rw [Bool.and_eq_true, Bool.and_eq_true, Bool.and_eq_true] at h
      exact snd_or (by assumption) (chkE_ok e C h.1.1.1) (chkE_ok f C h.1.1.2) h.1.2 h.2
    · cases h
  | .ite c e f, cls, X, a, C, h => by
    rw [chkE] at h
    split at h
    · rw [Bool.and_eq_true, Bool.and_eq_true, Bool.and_eq_true, Bool.and_eq_true] at h
      exact snd_ite (by assumption) (chkE_ok c C h.1.1.1.1) (chkE_ok e C h.1.1.1.2) (chkE_ok f C h.1.1.2) h.1.2 h.2
    · cases h
  | .cmp2 o o' c e f, cls, X, a, C, h => by
    rw [chkE] at h
    split at h
    · rw [Bool.and_eq_true, Bool.and_eq_true] at h
      exact snd_cmp2 C (by assumption) (chkE_ok c C h.1.1) (chkE_ok e C h.1.2) (chkE_ok f C h.2)
    · cases h
  | .get2 c e f, cls, X, a, C, h => by
    rw [chkE] at h
    split at h
    · rw [Bool.and_eq_true, Bool.and_eq_true, Bool.and_eq_true] at h
      exact snd_get2 C (by assumption) (chkE_ok c C h.1.1.1) (chkE_ok e C h.1.1.2) (chkE_ok f C h.1.2) h.2
    · cases h
  | .call i args, cls, X, a, C, h => by
    rw [chkE] at h
    split at h
    · split at h
      · rw [Bool.and_eq_true, Bool.and_eq_true, Bool.and_eq_true, List.isEmpty_iff] at h
        exact snd_call C (by assumption) (by assumption) (chkEs_ok args C h.1.1.1) h.1.1.2 h.1.2 h.2
      · cases h
    · cases h
  | .comp elt tg io src conds, cls, X, a, C, h => by
    rw [chkE] at h
    split at h
    · split at h
      · rename_i hi
        simp only [Bool.and_eq_true, Bool.or_eq_true, Bool.not_eq_true'] at h
        obtain ⟨⟨⟨⟨⟨⟨⟨⟨⟨⟨g1, g2⟩, g3⟩, g4⟩, g5⟩, g6⟩, g7⟩, g8⟩, g9⟩, g10⟩, g11⟩ := h
        refine Snd.ofCB (snd_comp C (by assumption) hi (chkEs_ok src C g1) g2 (fun q => ?_) (fun q => ?_) g5 g6 g7 g8 (fun s H K cl fp => chkEs_ok conds (C.blk s H _ _ fp) g9) (fun s H K cl fp => chkE_ok elt (C.blk s H _ _ fp) g10) g11 (fun q i x e1 e2 => ?_))
        · rcases g3 with z | z
          · rw [z] at q; cases q
          · exact z
        · rcases g4 with z | z
          · rw [z] at q; cases q
          · exact z
        · subst e1 e2
          have : (chkE S X.env.scope cls (.var i) x && chkEs S X.env.scope cls [] []) = true := g1
          rw [Bool.and_eq_true] at this
          exact this.1
      · cases h
    · cases h
theorem chkEs_ok {S : Stat} {cf : CF} : ∀ (es : List E) {cls : List Cl} {X : Cx} {as : List PySem.Expr}, CtxOk S cf X → chkEs S X.env.scope cls es as = true → SndL S.fds cf cls X es as
  | [], _, _, [], _, _ => .nil
  | [], _, _, _ :: _, _, h => by cases h
  | _ :: _, _, _, [], _, h => by cases h
  | e :: es, cls, X, a :: as, C, h => by
    rw [chkEs, Bool.and_eq_true] at h
    exact .cons (chkE_ok e C h.1) (chkEs_ok es C h.2)
theorem chkO_ok {S : Stat} {cf : CF} : ∀ (e : Option E) {cls : List Cl} {X : Cx} {a : Option PySem.Expr}, CtxOk S cf X → chkO S X.env.scope cls e a = true → PO X a (tGO X.K cls fun env => evalO cf env e)
  | none, _, _, none, _, _ => s_poN
  | none, _, _, some _, _, h => by cases h
  | some _, _, _, none, _, h => by cases h
  | some e, cls, X, some a, C, h => by
    rw [chkO] at h
    exact s_poS (chkE_ok e C h).R
end
end PyI
end

section
set_option maxRecDepth 100000
set_option maxHeartbeats 4000000
namespace PyI
open PySem PySem.Spec PyProof.Rows L2
/-- classes may be taken for others -/
def coer1 (io : List Nat) (i : Nat) (a b : Cl) : Bool := decide (a = b) || (match a, b with
  | .O, .F => !io.contains i
  | .F, .B => true
  | .O, .B => !io.contains i
  | _, _ => false)
def coerOk (io : List Nat) (a b : List Cl) : Bool := decide (a.length = b.length) && (List.range a.length).all fun i => coer1 io i (clA a i) (clA b i)
section
variable {K : PySem.W.Frag} {Γ : Gh} {L : List Addr} {cls c' : List Cl} {G H G' H' : Hp} {env : PyI.Env} {σ : L2.St} {v : V} {d : D} {i : Nat}
theorem io_ne {io : List Nat} (hio : Γ.io.map (·.1) = io) (h : io.contains i = false) : ∀ p ∈ Γ.io, p.1 ≠ i := by
  intro p hp q
  have : i ∈ io := by rw [← hio, ← q]; exact List.mem_map_of_mem hp
  rw [List.contains_iff_mem.mpr this] at h
  cases h
theorem EnvRel.toB (E : EnvRel K Γ L cls G env σ H) (hi : i < cls.length) (hc : clA cls i = .F) : EnvRel K Γ L (cls.set i .B) G env σ H :=
  { E with
    cl := by simp [E.cl]
    sl := fun j e h => by
      obtain ⟨w, h1, h2⟩ := E.sl j e h
      refine ⟨w, h1, ?_⟩
      rw [clA_set hi]
      by_cases q : j = i
      · subst q; rw [if_pos rfl]; rw [hc] at h2; exact .inl h2
      · rw [if_neg q]; exact h2
    ap := fun p q d' e' b hpq c1 c2 h1 m1 h2 m2 s1 s2 => by
      rw [clA_set hi] at c1 c2
      split at c1
      · cases c1
      · split at c2
        · cases c2
        · exact E.ap p q d' e' b hpq c1 c2 h1 m1 h2 m2 s1 s2
    io := fun p hp => by
      obtain ⟨a1, a2⟩ := E.io p hp
      refine ⟨?_, a2⟩
      rw [clA_set hi]
      split
      · rename_i q; rw [q, hc] at a1; cases a1
      · exact a1 }
theorem set_same_len {l : List Cl} {i : Nat} {c : Cl} (hi : i < l.length) (h : clA l i = c) : l.set i c = l := by
  unfold clA at h
  rw [List.getD_eq_getElem?_getD, List.getElem?_eq_getElem hi] at h
  simp at h
  subst h
  exact List.set_getElem_self hi
theorem EnvRel.coer1 {io : List Nat} {c : Cl} (hio : Γ.io.map (·.1) = io) (E : EnvRel K Γ L cls G env σ H) (hi : i < cls.length) (h : PyI.coer1 io i (clA cls i) c = true) : ∃ G', Ex G G' ∧ EnvRel K Γ L (cls.set i c) G' env σ H := by
  unfold PyI.coer1 at h
  rw [Bool.or_eq_true, decide_eq_true_eq] at h
  rcases h with h | h
  · rw [set_same_len hi h]; exact ⟨G, Ex.refl G, E⟩
  · cases hc : clA cls i with
    | O =>
      rw [hc] at h
      cases c with
      | F => exact E.freeze hi hc (io_ne hio (by simpa using h))
      | B =>
        obtain ⟨G', e, E'⟩ := E.freeze hi hc (io_ne hio (by simpa using h))
        have := E'.toB (i := i) (by simpa using hi) (by rw [clA_set hi, if_pos rfl])
        rw [List.set_set] at this
        exact ⟨G', e, this⟩
      | O => cases h
    | F =>
      rw [hc] at h
      cases c with
      | B => exact ⟨G, Ex.refl G, E.toB hi hc⟩
      | _ => cases h
    | B => rw [hc] at h; cases c <;> cases h
theorem set_mix : ∀ (k : Nat) (a b : List Cl), a.length = b.length → k < a.length → (b.take k ++ a.drop k).set k (clA b k) = b.take (k + 1) ++ a.drop (k + 1)
  | 0, x :: a, y :: b, _, _ => by simp [clA]
  | k + 1, x :: a, y :: b, h, hk => by
    have := set_mix k a b (by simpa using h) (by simpa using hk)
    have e : clA (y :: b) (k + 1) = clA b k := by simp [clA]
    rw [e]
    simp only [List.take_succ_cons, List.drop_succ_cons, List.cons_append, List.set_cons_succ, this]
  | _, [], _, _, hk => by simp at hk
  | _, _ :: _, [], h, _ => by simp at h
theorem EnvRel.coer {io : List Nat} (hio : Γ.io.map (·.1) = io) (E : EnvRel K Γ L cls G env σ H) (h : coerOk io cls c' = true) : ∃ G', Ex G G' ∧ EnvRel K Γ L c' G' env σ H := by
  unfold coerOk at h
  rw [Bool.and_eq_true, decide_eq_true_eq, List.all_eq_true] at h
  obtain ⟨hl, hall⟩ := h
  have key : ∀ k, k ≤ cls.length → ∃ G', Ex G G' ∧ EnvRel K Γ L (c'.take k ++ cls.drop k) G' env σ H := by
    intro k
    induction k with
    | zero => intro _; exact ⟨G, Ex.refl G, by simpa using E⟩
    | succ k ih =>
      intro hk
      obtain ⟨G1, e1, E1⟩ := ih (by omega)
      have hk' : k < cls.length := by omega
      have hlen : (c'.take k ++ cls.drop k).length = cls.length := by simp; omega
      have hat : clA (c'.take k ++ cls.drop k) k = clA cls k := by
        unfold clA
        rw [List.getD_eq_getElem?_getD, List.getD_eq_getElem?_getD, List.getElem?_append_right (by simp; omega)]
        simp
        rw [Nat.min_eq_left (by omega)]; simp
      have hc := hall k (List.mem_range.mpr hk')
      rw [← hat] at hc
      obtain ⟨G2, e2, E2⟩ := EnvRel.coer1 (i := k) hio E1 (by omega) hc
      refine ⟨G2, e1.trans e2, ?_⟩
      have := set_mix k cls c' hl hk'
      rw [← this]
      exact E2
  obtain ⟨G', e, E'⟩ := key cls.length (Nat.le_refl _)
  refine ⟨G', e, ?_⟩
  rw [List.drop_length, List.append_nil, hl, List.take_length] at E'
  exact E'
end
/-! readings -/
def Aft (K : PySem.W.Frag) (Γ : Gh) (L : List Addr) (G : Hp) (c : List Cl) (e : PyI.Env) (N : L2.St → Hp → Prop) : Prop := ∀ G' σ' H', EnvRel K Γ L c G' e σ' H' → Ex G G' → N σ' H'
def EndsOk (K : PySem.W.Frag) (fr : Bool) (cn lc : Option (List Cl)) (Γ : Gh) (L : List Addr) (G : Hp) (D : Ends) : Fl → Prop
  | .nxt e => ∀ c, cn = some c → Aft K Γ L G c e D.nx
  | .ret d e => ∀ c G' v σ' H', EnvRel K Γ L c G' e σ' H' → Ex G G' → PostB K fr G' Γ.H0 H' v d → D.rt v H'
  | .brk e => ∀ c, lc = some c → Aft K Γ L G c e D.bk
  | .cnt e => ∀ c, lc = some c → Aft K Γ L G c e D.ct
def tS (K : PySem.W.Frag) (io : List Nat) (fr : Bool) (cls : List Cl) (cn lc : Option (List Cl)) (ex : PyI.Env → Option Fl) : TS := fun D σ H => ∃ Γ L G env fl, EnvRel K Γ L cls G env σ H ∧ Γ.io.map (·.1) = io ∧ ex env = some fl ∧ EndsOk K fr cn lc Γ L G D fl
theorem PS.imp' {X : Cx} {st : Stmt} {t t' : TS} (h : PS X st t) (f : ∀ D σ H, t' D σ H → t D σ H) : PS X st t' := ⟨fun pins s σ H D I q => h.run pins s σ H D I (f D σ H q)⟩
theorem PSs.imp' {X : Cx} {st : List Stmt} {t t' : TS} (h : PSs X st t) (f : ∀ D σ H, t' D σ H → t D σ H) : PSs X st t' := ⟨fun pins s σ H D I q => h.run pins s σ H D I (f D σ H q)⟩
theorem PS.or' {X : Cx} {st : Stmt} {t t' : TS} (h : PS X st t) (h' : PS X st t') : PS X st (fun D σ H => t D σ H ∨ t' D σ H) := ⟨fun pins s σ H D I q => q.elim (h.run pins s σ H D I) (h'.run pins s σ H D I)⟩
section
variable {X : Cx} {cls c' : List Cl} {io : List Nat} {fr : Bool} {cn lc : Option (List Cl)} {e a b : PySem.Expr} {ev : EvD} {pos py : Pos} {i : Nat} {y : Str}
def exAsg (i : Nat) (ev : EvD) : PyI.Env → Option Fl := fun env => match ev env with
  | some d => some (.nxt (env.set i (some d)))
  | none => none
theorem exAsg_inv {ev : EvD} {env : PyI.Env} {fl : Fl} (h : exAsg i ev env = some fl) : ∃ d, ev env = some d ∧ fl = .nxt (env.set i (some d)) := by
  unfold exAsg at h
  split at h
  · cases h; exact ⟨_, by assumption, rfl⟩
  · cases h
theorem t_asgF (hi : i < cls.length) (hn : io.contains i = false) (D : Ends) (σ : L2.St) (H : Hp) (h : tS X.K io fr cls (some (cls.set i .F)) lc (exAsg i ev) D σ H) : tAsg (tG X.K cls (PV X.K) ev) (gName i) D σ H := by
  obtain ⟨Γ, L, G, env, fl, E, hio, hx, k⟩ := h
  obtain ⟨d, hd, rfl⟩ := exAsg_inv hx
  exact ⟨Γ, L, G, env, d, E, hd, fun v G' H' s r => k _ rfl G' _ H' ((E.step s).setF r hi (io_ne hio hn)) s.gg⟩
theorem t_asgO (hi : i < cls.length) (hn : io.contains i = false) (D : Ends) (σ : L2.St) (H : Hp) (h : tS X.K io fr cls (some (cls.set i .O)) lc (exAsg i ev) D σ H) : tAsg (tG X.K cls (PX X.K true) ev) (gName i) D σ H := by
  obtain ⟨Γ, L, G, env, fl, E, hio, hx, k⟩ := h
  obtain ⟨d, hd, rfl⟩ := exAsg_inv hx
  exact ⟨Γ, L, G, env, d, E, hd, fun v G' H' s r => k _ rfl G' _ H' (E.setO s r hi (io_ne hio hn)) s.gg⟩
def exRet (ev : EvD) : PyI.Env → Option Fl := fun env => match ev env with
  | some d => some (.ret d env)
  | none => none
theorem exRet_inv {ev : EvD} {env : PyI.Env} {fl : Fl} (h : exRet ev env = some fl) : ∃ d, ev env = some d ∧ fl = .ret d env := by
  unfold exRet at h
  split at h
  · cases h; exact ⟨_, by assumption, rfl⟩
  · cases h
theorem h0_none {K : PySem.W.Frag} {Γ : Gh} {L : List Addr} {G H : Hp} {env : PyI.Env} {σ : L2.St} {p : Addr} (E : EnvRel K Γ L cls G env σ H) (n : H p = none) : Γ.H0 p = none := by
  cases e : Γ.H0 p with
  | none => rfl
  | some o => exact absurd n (E.h0 p (by rw [e]; simp))
theorem ResF.h0 {K : PySem.W.Frag} {Γ : Gh} {L : List Addr} {G H G' H' : Hp} {env : PyI.Env} {σ : L2.St} {v : V} {d : D} (E : EnvRel K Γ L cls G env σ H) (r : ResF K G' H H' v d) : ResF K G' Γ.H0 H' v d := by
  cases d with
  | lst ds => obtain ⟨p, e, g, n, q⟩ := r; exact ⟨p, e, g, h0_none E n, q⟩
  | dic ds => obtain ⟨p, e, g, n, q⟩ := r; exact ⟨p, e, g, h0_none E n, q⟩
  | _ => exact r
theorem s_ret (he : PE X e (tG X.K cls (PX X.K fr) ev)) : PS X (.Return (some e) pos) (tS X.K io fr cls cn lc (exRet ev)) :=
  PS.imp' (ps_ret he) fun D σ H ⟨Γ, L, G, env, fl, E, hio, hx, k⟩ => by
    obtain ⟨d, hd, rfl⟩ := exRet_inv hx
    refine ⟨Γ, L, G, env, d, E, hd, fun v G' H' s r => k cls G' v σ H' (E.step s) s.gg ?_⟩
    cases fr with
    | false => exact r
    | true => exact ResF.h0 E r
/-- an owned slot is returned -/
theorem s_retO {x : Str} (hN : X.N[i]? = some x) (hv : Vis X.env.scope x) (h1 : (x == ("__debug__" : Str)) = false) (h2 : (x == ("__classdict__" : Str)) = false) (hn : io.contains i = false) (hc : clA cls i = .O) : PS X (.Return (some (.Name x pos)) py) (tS X.K io true cls cn lc (exRet fun env => look env i)) :=
  PS.imp' (ps_ret (pe_var hN hv h1 h2)) fun D σ H ⟨Γ, L, G, env, fl, E, hio, hx, k⟩ => by
    obtain ⟨d, hd, rfl⟩ := exRet_inv hx
    obtain ⟨v, e1, e2⟩ := E.look hd
    refine ⟨v, e1, k cls G v σ H E (Ex.refl G) ?_⟩
    rw [hc] at e2
    rcases e2 with ⟨m, r⟩ | ⟨a, rfl, g, hn', own⟩
    · exact Rep.im m r
    · refine ResF.of own g ?_
      rcases hn' with h | ⟨p, hp, ep⟩
      · exact h
      · obtain ⟨c1, s1, d1, e1', m1⟩ := E.io p hp
        rw [ep] at s1
        exact (E.ap i p.1 d d1 a (fun z => io_ne hio hn p hp z.symm) hc c1 (look_some hd) own.mut e1' m1 e1 s1).elim
theorem s_retN : PS X (.Return none pos) (tS X.K io fr cls cn lc fun env => some (.ret .non env)) :=
  PS.imp' ps_retN fun D σ H ⟨Γ, L, G, env, fl, E, hio, hx, k⟩ => by
    cases hx
    exact k cls G .non σ H E (Ex.refl G) (by cases fr <;> exact Rep.non)
theorem s_pass : PS X (.Pass pos) (tS X.K io fr cls (some cls) lc fun env => some (.nxt env)) :=
  PS.imp' ps_pass fun D σ H ⟨Γ, L, G, env, fl, E, hio, hx, k⟩ => by cases hx; exact k cls rfl G σ H E (Ex.refl G)
theorem s_brk {c : List Cl} (h : coerOk io cls c = true) : PS X (.Break pos) (tS X.K io fr cls cn (some c) fun env => some (.brk env)) :=
  PS.imp' ps_break fun D σ H ⟨Γ, L, G, env, fl, E, hio, hx, k⟩ => by
    cases hx
    obtain ⟨G', e, E'⟩ := E.coer hio h
    exact k c rfl G' σ H E' e
theorem s_cnt {c : List Cl} (h : coerOk io cls c = true) : PS X (.Continue pos) (tS X.K io fr cls cn (some c) fun env => some (.cnt env)) :=
  PS.imp' ps_continue fun D σ H ⟨Γ, L, G, env, fl, E, hio, hx, k⟩ => by
    cases hx
    obtain ⟨G', e, E'⟩ := E.coer hio h
    exact k c rfl G' σ H E' e
def exExpr (ev : EvD) : PyI.Env → Option Fl := fun env => match ev env with
  | some _ => some (.nxt env)
  | none => none
theorem s_expr (he : PE X e (tG X.K cls (PR X.K) ev)) (hs : swapsWith e none pos.line X.env = pure false) : PS X (.Expr e pos) (tS X.K io fr cls (some cls) lc (exExpr ev)) :=
  PS.imp' (ps_expr he hs) fun D σ H ⟨Γ, L, G, env, fl, E, hio, hx, k⟩ => by
    unfold exExpr at hx
    split at hx
    · cases hx
      exact ⟨Γ, L, G, env, _, E, by assumption, fun v G' H' s r => k cls rfl G' σ H' (E.step s) s.gg⟩
    · cases hx
/-- a, b = a tuple -/
def exAsgT (tg : Tg) (ev : EvD) : PyI.Env → Option Fl := fun env => match ev env with
  | some d => (match bindT tg d env with
    | some env' => some (.nxt env')
    | none => none)
  | none => none
theorem s_asgT {tg : Tg} (hf : tgF cls (ixT tg) = true) (he : PE X e (tG X.K cls (PV X.K) ev)) (hg : PG X a (gOf X.K tg)) (hs : swapsWithSole [a] e pos.line X.env = pure false) (hw : swappedStores [a] e X.env = pure none) (h1 : (assignEach [a] X.env).map (·.2) = [assign a X.env]) :
    PS X (.Assign [a] e pos) (tS X.K io fr cls (some (clsT cls tg)) lc (exAsgT tg ev)) :=
  PS.imp' (ps_asg he hg hs hw h1) fun D σ H ⟨Γ, L, G, env, fl, E, hio, hx, k⟩ => by
    unfold exAsgT at hx
    split at hx
    · rename_i d hd
      split at hx
      · rename_i env' hb
        cases hx
        refine ⟨Γ, L, G, env, d, E, hd, fun v G' H' s r => ?_⟩
        exact tgt_ok (pr := false) (G1 := G') (fun q => by cases q) hf (E.step s) (.inl ⟨rfl, r⟩) (Ex.refl G') hb rfl (fun _ _ => rfl) fun σ' s2 E2 _ _ => k _ rfl G' σ' H' E2 s.gg
      · cases hx
    · cases hx
/-- d[k] = v, xs[j] = v -/
def exSetix (i : Nat) (ek ev : EvD) : PyI.Env → Option Fl := fun env => match ev env with
  | some d => (match look env i with
    | some (.dic kvs) => (match ek env with
      | some k => (match keyOf k with
        | some k => if kvs.length < BIG then some (.nxt (env.set i (some (.dic (dput kvs k d))))) else none
        | none => none)
      | none => none)
    | some (.lst xs) => (match ek env with
      | some (.int j) => (match L2.ixN xs.length j with
        | some j => some (.nxt (env.set i (some (.lst (xs.set j d)))))
        | none => none)
      | _ => none)
    | _ => none)
  | none => none
theorem own_of {K : PySem.W.Frag} {Γ : Gh} {L : List Addr} {G H : Hp} {env : PyI.Env} {σ : L2.St} {d : D} (E : EnvRel K Γ L cls G env σ H) (hc : clA cls i = .O) (hd : look env i = some d) (hm : isMut d = true) : ∃ a, σ[i]? = some (some (.ref a)) ∧ Own K G H a d := by
  obtain ⟨v, e1, e2⟩ := E.look hd
  rw [hc] at e2
  rcases e2 with ⟨m, _⟩ | ⟨a, rfl, _, _, own⟩
  · rw [hm] at m; cases m
  · exact ⟨a, e1, own⟩
theorem PSet.or {t t' : TSet} (h : PSet X t) (h' : PSet X t') : PSet X (fun o i v H Q => t o i v H Q ∨ t' o i v H Q) := fun pins s σ H o i v ov iv u Q I r1 r2 r3 q => q.elim (h pins s σ H o i v ov iv u Q I r1 r2 r3) (h' pins s σ H o i v ov iv u Q I r1 r2 r3)
theorem s_setix {x : Str} {ek : EvD} {p1 : Pos} (hu : X.A.units + 1 < cLine) (hN : X.N[i]? = some x) (hv : Vis X.env.scope x) (h1 : (x == ("__debug__" : Str)) = false) (h2 : (x == ("__classdict__" : Str)) = false) (hc : clA cls i = .O) (hk : PE X b (tG X.K cls (PR X.K) ek)) (hb : notSlice b = true)
    (he : PE X e (tG X.K cls (PV X.K) ev)) (hs : swapsWithSole [.Subscript (.Name x p1) b py] e pos.line X.env = pure false) : PS X (.Assign [.Subscript (.Name x p1) b py] e pos) (tS X.K io fr cls (some cls) lc (exSetix i ek ev)) := by
  have ha : ∀ v, assign (.Subscript (.Name x p1) b py) X.env v = (do
      let ov ← holding [v] (eval (.Name x p1) X.env)
      let iv ← holding [v, ov] (eval b X.env)
      standAt py
      holding [v, ov, iv] (setItem ov iv v)
      release [v, ov, iv] []) := by intro v; cases b <;> first | rfl | cases hb
  refine PS.imp' (ps_asg he (pg_sub (pe_var hN hv h1 h2) hk (PSet.or (set_dict hu) set_list) ha) hs rfl rfl) fun D σ H ⟨Γ, L, G, env, fl, E, hio, hx, k⟩ => ?_
  unfold exSetix at hx
  split at hx
  · rename_i d hd
    refine ⟨Γ, L, G, env, d, E, hd, fun w G1 H1 s1 r1 => ?_⟩
    have E1 := E.step s1
    split at hx
    · rename_i kvs hl
      obtain ⟨a, hσ, own⟩ := own_of E1 hc hl rfl
      split at hx
      · rename_i kd hkd
        split at hx
        · rename_i key hkey
          split at hx
          · rename_i hz
            cases hx
            refine ⟨_, hσ, Γ, L, G1, env, kd, E1, hkd, fun u G2 H2 s2 r2 => .inl ?_⟩
            have E2 := E1.step s2
            obtain ⟨ks, hH, rk⟩ := own.ex s2.gg s2.hh
            refine ⟨a, _, rfl, .inl ⟨ks, key, hH, keyT r2 hkey, Nat.lt_of_lt_of_le (by rw [rk.length]; exact hz) BIG_line, rfl⟩, k cls rfl G2 σ _ ?_ (s1.gg.trans s2.gg)⟩
            exact E2.write hc (look_some hl) rfl hσ rfl ⟨_, upd_same, rk.put (r1.mono s2.gg)⟩
          · cases hx
        · cases hx
      · cases hx
    · rename_i xs hl
      obtain ⟨a, hσ, own⟩ := own_of E1 hc hl rfl
      split at hx
      · rename_i j hkd
        split at hx
        · rename_i jn hj
          cases hx
          refine ⟨_, hσ, Γ, L, G1, env, _, E1, hkd, fun u G2 H2 s2 r2 => .inr ?_⟩
          have E2 := E1.step s2
          obtain ⟨ys, hH, rr⟩ := own.ex s2.gg s2.hh
          refine ⟨a, ys, j, jn, rfl, r2, hH, by rw [rr.length]; exact hj, k cls rfl G2 σ _ ?_ (s1.gg.trans s2.gg)⟩
          exact E2.write hc (look_some hl) rfl hσ rfl ⟨_, upd_same, rr.set (r1.mono s2.gg) jn⟩
        · cases hx
      · cases hx
    · cases hx
  · cases hx
/-- xs.append(e) -/
def exApp (i : Nat) (ev : EvD) : PyI.Env → Option Fl := fun env => match look env i with
  | some (.lst xs) => (match ev env with
    | some d => if xs.length < BIG then some (.nxt (env.set i (some (.lst (xs ++ [d]))))) else none
    | none => none)
  | _ => none
theorem s_app {x : Str} {apos p1 : Pos} (hN : X.N[i]? = some x) (hv : Vis X.env.scope x) (h1 : (x == ("__debug__" : Str)) = false) (h2 : (x == ("__classdict__" : Str)) = false) (hc : clA cls i = .O) (he : PE X e (tG X.K cls (PV X.K) ev)) (hn : notStar e = true) (hab : abB (.Name x p1) = true) (hline : (apos.endLine == py.line) = true) :
    PS X (.Expr (.Call (.Attribute (.Name x p1) "append" apos) [e] [] py) pos) (tS X.K io fr cls (some cls) lc (exApp i ev)) := by
  have hs1 : starEach [e] X.env = (false, eval e X.env) :: starEach [] X.env := by cases e <;> first | rfl | cases hn
  refine PS.imp' (ps_expr (pe_bm PySem.F.plainAttrs_list PySem.F.slot_list_append PySem.F.type_list_append mt_append (pe_var hN hv h1 h2) (pa_cons he pa_nil hs1) (abB_ok hab) (by rw [hs1]; rfl) hline hs1 rfl) rfl) fun D σ H ⟨Γ, L, G, env, fl, E, hio, hx, k⟩ => ?_
  unfold exApp at hx
  split at hx
  · rename_i xs hl
    obtain ⟨a, hσ, own⟩ := own_of E hc hl rfl
    split at hx
    · rename_i d hd
      split at hx
      · rename_i hz
        cases hx
        obtain ⟨zs, hH0, rr0⟩ := id own
        refine ⟨_, hσ, .inl ⟨rfl, zs, .inl (.inl hH0)⟩, Γ, L, G, env, d, E, hd, fun w G1 H1 s1 r1 => ?_⟩
        have E1 := E.step s1
        obtain ⟨ys, hH, rr⟩ := own.ex s1.gg s1.hh
        refine ⟨a, ys, w, rfl, rfl, hH, Nat.lt_of_lt_of_le (by rw [rr.length]; exact hz) BIG_line, k cls rfl G1 σ _ ?_ s1.gg⟩
        exact E1.write hc (look_some hl) rfl hσ rfl ⟨_, upd_same, rr.append (.cons r1 .nil)⟩
      · cases hx
    · cases hx
  · cases hx
/-- x += e, ints -/
def exAug (i : Nat) (o : Op2) (ev : EvD) : PyI.Env → Option Fl := fun env => match look env i with
  | some (.int x) => (match ev env with
    | some (.int y) => some (.nxt (env.set i (some (.int (augI o x y)))))
    | _ => none)
  | _ => none
theorem s_aug {x : Str} {p1 : Pos} {o : Op2} {op : Operator} (ho : (o = .add ∧ op = .Add) ∨ (o = .sub ∧ op = .Sub)) (hN : X.N[i]? = some x) (hx0 : Loc X.env.scope x) (nd : X.N.Nodup) (hf : X.fn x = true ∨ X.env.scope.names.lookup x = some .local) (hi : i < cls.length) (hn : io.contains i = false) (he : PE X e (tG X.K cls (PR X.K) ev)) :
    PS X (.AugAssign (.Name x p1) op e pos) (tS X.K io fr cls (some (cls.set i .F)) lc (exAug i o ev)) := by
  have go : ∀ {f : Int → Int → Int}, (∀ x y, f x y = (augI o x y)) → PIp X op (ipI f) → PS X (.AugAssign (.Name x p1) op e pos) (tS X.K io fr cls (some (cls.set i .F)) lc (exAug i o ev)) := by
    intro f hff hp
    refine PS.imp' (ps_aug nd hN hx0 he hp hf) fun D σ H ⟨Γ, L, G, env, fl, E, hio, hx, k⟩ => ?_
    unfold exAug at hx
    split at hx
    · rename_i x1 hl
      split at hx
      · rename_i y1 hd
        cases hx
        obtain ⟨v, e1, e2⟩ := E.look hl
        have hv : v = .int x1 := e2.toT E
        refine ⟨v, e1, Γ, L, G, env, _, E, hd, fun w G1 H1 s1 r1 => ⟨x1, y1, hv, r1, k _ rfl G1 _ H1 ?_ s1.gg⟩⟩
        rw [← hff]
        exact (E.step s1).setF (.int _) hi (io_ne hio hn)
      · cases hx
    · cases hx
  rcases ho with ⟨rfl, rfl⟩ | ⟨rfl, rfl⟩
  · exact go (fun _ _ => rfl) ip_add
  · exact go (fun _ _ => rfl) ip_sub
/-- if -/
theorem EndsOk.mono {K : PySem.W.Frag} {Γ : Gh} {L : List Addr} {G G' : Hp} {D : Ends} {fl : Fl} (e : Ex G G') (h : EndsOk K fr cn lc Γ L G D fl) : EndsOk K fr cn lc Γ L G' D fl := by
  cases fl with
  | nxt e' => exact fun c hc G2 σ' H' E x => h c hc G2 σ' H' E (e.trans x)
  | ret d e' => exact fun c G2 v σ' H' E x => h c G2 v σ' H' E (e.trans x)
  | brk e' => exact fun c hc G2 σ' H' E x => h c hc G2 σ' H' E (e.trans x)
  | cnt e' => exact fun c hc G2 σ' H' E x => h c hc G2 σ' H' E (e.trans x)
theorem EndsOk.coer {K : PySem.W.Frag} {Γ : Gh} {L : List Addr} {G : Hp} {D : Ends} {fl : Fl} {c1 : Option (List Cl)} {m : List Cl} (hio : Γ.io.map (·.1) = io) (hc : ∀ c, c1 = some c → coerOk io c m = true) (h : EndsOk K fr (some m) lc Γ L G D fl) : EndsOk K fr c1 lc Γ L G D fl := by
  cases fl with
  | nxt e' =>
    intro c hc1 G2 σ' H' E x
    obtain ⟨G3, e, E'⟩ := E.coer hio (hc c hc1)
    exact h m rfl G3 σ' H' E' (x.trans e)
  | ret d e' => exact h
  | brk e' => exact h
  | cnt e' => exact h
/-- a flow that does not fall through needs no classes -/
theorem EndsOk.none' {K : PySem.W.Frag} {Γ : Gh} {L : List Addr} {G : Hp} {D : Ends} {fl : Fl} {c : Option (List Cl)} (h : EndsOk K fr c lc Γ L G D fl) : EndsOk K fr none lc Γ L G D fl := by
  cases fl with
  | nxt e' => exact fun c hc => by cases hc
  | ret d e' => exact h
  | brk e' => exact h
  | cnt e' => exact h
def exIf (ec : EvD) (fa fb : PyI.Env → Option Fl) : PyI.Env → Option Fl := fun env => match ec env with
  | some (.bl true) => fa env
  | some (.bl false) => fb env
  | _ => none
theorem s_if {c : PySem.Expr} {ec : EvD} {sa sb : List Stmt} {fa fb : PyI.Env → Option Fl} {ca cb cm : Option (List Cl)} (hc : PT X c (tT X.K cls ec)) (ha : PSs X sa (tS X.K io fr cls ca lc fa)) (hb : PSs X sb (tS X.K io fr cls cb lc fb))
    (h1 : ∀ {Γ : Gh} {L : List Addr} {G : Hp} {D : Ends} {fl : Fl}, Γ.io.map (·.1) = io → EndsOk X.K fr cm lc Γ L G D fl → EndsOk X.K fr ca lc Γ L G D fl ∧ EndsOk X.K fr cb lc Γ L G D fl) : PS X (.If c sa sb pos) (tS X.K io fr cls cm lc (exIf ec fa fb)) :=
  PS.imp' (ps_if hc ha hb) fun D σ H ⟨Γ, L, G, env, fl, E, hio, hx, k⟩ => by
    unfold exIf at hx
    split at hx
    · rename_i h
      exact ⟨Γ, L, G, env, true, E, h, fun G' H' s => ⟨Γ, L, G', env, fl, E.step s, hio, hx, (h1 hio (k.mono s.gg)).1⟩⟩
    · rename_i h
      exact ⟨Γ, L, G, env, false, E, h, fun G' H' s => ⟨Γ, L, G', env, fl, E.step s, hio, hx, (h1 hio (k.mono s.gg)).2⟩⟩
    · cases hx
/-- one statement, then others -/
def exSeq (f g : PyI.Env → Option Fl) : PyI.Env → Option Fl := fun env => match f env with
  | some (.nxt e) => g e
  | o => o
theorem s_seq {st : Stmt} {rest : List Stmt} {f g : PyI.Env → Option Fl} {c : List Cl} (h : PS X st (tS X.K io fr cls (some c) lc f)) (hr : PSs X rest (tS X.K io fr c cn lc g)) : PSs X (st :: rest) (tS X.K io fr cls cn lc (exSeq f g)) :=
  PSs.imp' (pss_cons h hr) fun D σ H ⟨Γ, L, G, env, fl, E, hio, hx, k⟩ => by
    unfold exSeq at hx
    cases hf : f env with
    | none => rw [hf] at hx; cases hx
    | some fl0 =>
      rw [hf] at hx
      refine ⟨Γ, L, G, env, fl0, E, hio, hf, ?_⟩
      cases fl0 with
      | nxt e => exact fun c' hc G' σ' H' E' x => by cases hc; exact ⟨Γ, L, G', e, fl, E', hio, hx, k.mono x⟩
      | ret d e => cases hx; exact k
      | brk e => cases hx; exact k
      | cnt e => cases hx; exact k
theorem s_last {st : Stmt} {f : PyI.Env → Option Fl} (h : PS X st (tS X.K io fr cls none lc f)) : PSs X [st] (tS X.K io fr cls none lc (exSeq f fun env => some (.nxt env))) :=
  PSs.imp' (pss_one h) fun D σ H ⟨Γ, L, G, env, fl, E, hio, hx, k⟩ => by
    unfold exSeq at hx
    cases hf : f env with
    | none => rw [hf] at hx; cases hx
    | some fl0 =>
      rw [hf] at hx
      refine ⟨Γ, L, G, env, fl0, E, hio, hf, ?_⟩
      cases fl0 with
      | nxt e => cases hx; exact k
      | ret d e => cases hx; exact k
      | brk e => cases hx; exact k
      | cnt e => cases hx; exact k
theorem s_nilS : PSs X [] (tS X.K io fr cls (some cls) lc fun env => some (.nxt env)) :=
  PSs.imp' pss_nil fun D σ H ⟨Γ, L, G, env, fl, E, hio, hx, k⟩ => by cases hx; exact k cls rfl G σ H E (Ex.refl G)
theorem s_frz {sts : List Stmt} {f : PyI.Env → Option Fl} (hi : i < cls.length) (hc : clA cls i = .O) (hn : io.contains i = false) (h : PSs X sts (tS X.K io fr (cls.set i .F) cn lc f)) : PSs X sts (tS X.K io fr cls cn lc (exSeq (fun env => some (.nxt env)) f)) :=
  PSs.imp' h fun D σ H ⟨Γ, L, G, env, fl, E, hio, hx, k⟩ => by
    obtain ⟨G', e, E'⟩ := E.freeze hi hc (io_ne hio hn)
    exact ⟨Γ, L, G', env, fl, E', hio, hx, k.mono e⟩
end
end PyI
end

section
set_option maxRecDepth 100000
set_option maxHeartbeats 4000000
namespace PyI
open PySem PySem.Spec PyProof.Rows L2
section
variable {X : Cx} {cls c' : List Cl} {io : List Nat} {fr : Bool} {cn lc : Option (List Cl)} {e a b : PySem.Expr} {ev : EvD} {pos py : Pos} {i : Nat} {y : Str}
def exWhile (ec : EvD) (f : PyI.Env → Option Fl) : PyI.Env → Option Fl := fun env => whileL (fun env => boolOf (ec env)) f WF env
theorem boolOf_inv {o : Option D} {b : Bool} (h : boolOf o = some b) : o = some (.bl b) := by
  unfold boolOf at h
  split at h
  · cases h; rfl
  · cases h
theorem s_while {c : PySem.Expr} {ec : EvD} {body : List Stmt} {f : PyI.Env → Option Fl} {cb : Option (List Cl)} (hp : PassesOwn (model X.prog X.w) X.A X.env X.xe) (hc : PT X c (tT X.K cls ec)) (hb : PSs X body (tS X.K io fr cls cb (some cls) f)) (hco : ∀ c, cb = some c → coerOk io c cls = true) :
    PS X (.While c body [] pos) (tS X.K io fr cls (some cls) lc (exWhile ec f)) :=
  PS.imp' (ps_while hp hc hb) fun D σ H ⟨Γ, L, G0, env, fl, E, hio, hx, k⟩ => by
    refine ⟨fun m σ H => ∃ G env, Ex G0 G ∧ EnvRel X.K Γ L cls G env σ H ∧ whileL (fun env => boolOf (ec env)) f m env = some fl, ⟨WF, G0, env, Ex.refl G0, E, hx⟩, ?_⟩
    rintro m σ H ⟨G, env, eG, E, hw⟩
    cases m with
    | zero => cases hw
    | succ m =>
      rw [whileL] at hw
      split at hw
      · rename_i hcb
        refine ⟨Γ, L, G, env, true, E, boolOf_inv hcb, fun G1 H1 s1 => ?_⟩
        simp only [if_true]
        have E1 := E.step s1
        cases hf : f env with
        | none => rw [hf] at hw; cases hw
        | some fl1 =>
          rw [hf] at hw
          refine ⟨fun σ' H' => ∃ G env, Ex G0 G ∧ EnvRel X.K Γ L cls G env σ' H' ∧ whileL (fun env => boolOf (ec env)) f m env = some fl, fun σ' H' q => ⟨m, by omega, q⟩, Γ, L, G1, env, fl1, E1, hio, hf, ?_⟩
          cases fl1 with
          | nxt e1 =>
            intro c hcc G2 σ2 H2 E2 x
            obtain ⟨G3, y, E3⟩ := E2.coer hio (hco c hcc)
            exact ⟨G3, e1, eG.trans (s1.gg.trans (x.trans y)), E3, hw⟩
          | cnt e1 =>
            intro c hcc G2 σ2 H2 E2 x
            cases hcc
            exact ⟨G2, e1, eG.trans (s1.gg.trans x), E2, hw⟩
          | brk e1 =>
            intro c hcc G2 σ2 H2 E2 x
            cases hcc
            cases hw
            exact k cls rfl G2 σ2 H2 E2 (eG.trans (s1.gg.trans x))
          | ret d e1 =>
            cases hw
            intro c G2 v σ2 H2 E2 x r
            exact k c G2 v σ2 H2 E2 (eG.trans (s1.gg.trans x)) r
      · rename_i hcb
        cases hw
        refine ⟨Γ, L, G, env, false, E, boolOf_inv hcb, fun G1 H1 s1 => ?_⟩
        simp only [Bool.false_eq_true, if_false]
        exact k cls rfl G1 σ H1 (E.step s1) (eG.trans s1.gg)
      · cases hw
def fF (tg : Tg) (f : PyI.Env → Option Fl) : PyI.Env → D → Option Fl := fun env x => match bindT tg x env with
  | some env' => f env'
  | none => none
theorem for_use {J : It} {ds : List D} {pr : Bool} {tg : Tg} {f : PyI.Env → Option Fl} {cb : Option (List Cl)} {Γ : Gh} {L : List Addr} {G0 G1 : Hp} {H1 : Hp} {env : PyI.Env} {σ : L2.St} {fl : Fl} {D : Ends} (E : EnvRel X.K Γ L cls G1 env σ H1) (w : WalkD X.K pr (Stab false Γ L G1 H1) G1 J ds) (hpr : pr = true → isTupTg tg = true) (hf : tgF cls (ixT tg) = true) (hio : Γ.io.map (·.1) = io) (hco : ∀ c, cb = some c → coerOk io c cls = true) (hco0 : coerOk io (clsT cls tg) (clsT cls tg) = true)
    (hl : forL (fF tg f) env ds = some fl) (k : EndsOk X.K fr (some cls) lc Γ L G1 D fl) :
    ∃ W : Nat → Nat → L2.St → Hp → Prop, (∃ m, W 0 m σ H1) ∧ ∀ i m σ H, W i m σ H →
      (J.stop i H ∧ D.nx σ H) ∨ (J.go i H ∧ ∃ N : L2.St → Hp → Prop, (∀ σ' H', N σ' H' → ∃ m', m' < m ∧ W (i + 1) m' σ' H') ∧ ∀ x H', J.yld i H x H' → gOf X.K tg x σ H' fun σ2 H2 => tS X.K io fr (clsT cls tg) cb (some cls) f { D with nx := N, ct := N, bk := D.nx } σ2 H2) := by
  obtain ⟨Y, wk, wy⟩ := w
  refine for_it wk (D := D) (g := gOf X.K tg) (tb := tS X.K io fr (clsT cls tg) cb (some cls) f) (fun i σ H => ∃ G env, Ex G1 G ∧ EnvRel X.K Γ L cls G env σ H ∧ forL (fF tg f) env (ds.drop i) = some fl) ⟨G1, env, Ex.refl G1, E, hl⟩ ?_ ?_ ?_
  · rintro i σ H _ ⟨G, env, eG, E, _⟩
    exact ⟨G, E.stab' eG⟩
  · rintro i x σ H H' hi ⟨G, env, eG, E, hr⟩ y
    obtain ⟨d, hd, yd⟩ := wy i G H x H' hi (E.stab' eG) y
    have hdrop : ds.drop i = d :: ds.drop (i + 1) := by
      rw [List.drop_eq_getElem_cons hi]
      rw [List.getElem?_eq_getElem hi] at hd
      cases hd; rfl
    rw [hdrop, forL] at hr
    cases hfl : fF tg f env d with
    | none => rw [hfl] at hr; cases hr
    | some fl1 =>
      rw [hfl] at hr
      unfold fF at hfl
      split at hfl
      · rename_i env' hb
        refine tgt_ok hpr hf E yd eG hb rfl (fun _ _ => rfl) fun σ' s2 E2 _ _ => ⟨Γ, L, G, env', fl1, E2, hio, hfl, ?_⟩
        cases fl1 with
        | nxt e1 =>
          intro c hcc G2 σ2 H2 E3 x
          obtain ⟨G3, y, E4⟩ := E3.coer hio (hco c hcc)
          exact ⟨G3, e1, eG.trans (x.trans y), E4, hr⟩
        | cnt e1 =>
          intro c hcc G2 σ2 H2 E3 x
          cases hcc
          exact ⟨G2, e1, eG.trans x, E3, hr⟩
        | brk e1 =>
          intro c hcc G2 σ2 H2 E3 x
          cases hcc
          cases hr
          exact k cls rfl G2 σ2 H2 E3 (eG.trans x)
        | ret d e1 =>
          cases hr
          intro c G2 v σ2 H2 E3 x r
          exact k c G2 v σ2 H2 E3 (eG.trans x) r
      · cases hfl
  · rintro σ H ⟨G, env, eG, E, hr⟩
    rw [List.drop_length] at hr
    cases hr
    exact k cls rfl G σ H E eG
def exFor (tg : Tg) (src : PyI.Env → Option (List D)) (f : PyI.Env → Option Fl) : PyI.Env → Option Fl := fun env => match src env with
  | some xs => forL (fF tg f) env xs
  | none => none
theorem exFor_inv {tg : Tg} {src : PyI.Env → Option (List D)} {f : PyI.Env → Option Fl} {env : PyI.Env} {fl : Fl} (h : exFor tg src f env = some fl) : ∃ xs, src env = some xs ∧ forL (fF tg f) env xs = some fl := by
  unfold exFor at h
  split at h
  · exact ⟨_, by assumption, h⟩
  · cases h
theorem coer_refl : coerOk io cls cls = true := by
  unfold coerOk
  simp [coer1]
variable {tg : Tg} {tg' iter : PySem.Expr} {body : List Stmt} {f : PyI.Env → Option Fl} {cb : Option (List Cl)} {pr : Bool}
theorem s_for {src : PyI.Env → Option (List D)} (hp : PassesOwn (model X.prog X.w) X.A X.env X.xe) (hc : X.calm = true) (hi : PI X tg' iter (tIt X.K pr false cls src)) (hg : PG X tg' (gOf X.K tg)) (hb : PSs X body (tS X.K io fr (clsT cls tg) cb (some cls) f)) (hs : ∀ x, foldedSetIterable iter X.env x = pure x)
    (hpr : pr = true → isTupTg tg = true) (hf : tgF cls (ixT tg) = true) (hco : ∀ c, cb = some c → coerOk io c cls = true) : PS X (.For tg' iter body [] pos) (tS X.K io fr cls (some cls) lc (exFor tg src f)) :=
  PS.imp' (ps_for hp hc hi hg hb hs) fun D σ H ⟨Γ, L, G, env, fl, E, hio, hx, k⟩ => by
    obtain ⟨xs, h1, h2⟩ := exFor_inv hx
    exact ⟨Γ, L, G, env, xs, E, h1, fun J G1 H1 s1 w => for_use (lc := lc) (G0 := G) (E.step s1) w hpr hf hio hco coer_refl h2 (k.mono s1.gg)⟩
theorem s_forD {op : ItOp} {j : Nat} (hp : PassesOwn (model X.prog X.w) X.A X.env X.xe) (hc : X.calm = true) (hi : PI X tg' iter (tItD X.K pr false cls op j)) (hg : PG X tg' (gOf X.K tg)) (hb : PSs X body (tS X.K io fr (clsT cls tg) cb (some cls) f)) (hs : ∀ x, foldedSetIterable iter X.env x = pure x)
    (hpr : pr = true → isTupTg tg = true) (hf : tgF cls (ixT tg) = true) (hco : ∀ c, cb = some c → coerOk io c cls = true) (hj : clA cls j ≠ .O) : PS X (.For tg' iter body [] pos) (tS X.K io fr cls (some cls) lc (exFor tg (evDic op j) f)) := by
  have p0 : PS X (.For tg' iter body [] pos) _ := ps_for hp hc hi hg hb hs
  refine PS.imp' (PS.or' p0 (ps_lock p0)) fun D σ H ⟨Γ, L, G, env, fl, E, hio, hx, k⟩ => ?_
  obtain ⟨xs, h1, h2⟩ := exFor_inv hx
  obtain ⟨kvs, hl, hit⟩ := dic_inv h1
  obtain ⟨a, ks, hσ, rk, hn, hH | ⟨o, hH⟩⟩ := dict_src E hl hj
  · refine .inr ⟨a, .dK ks, hH, trivial, fun od => ?_⟩
    have E' := (E.lock (od := od) hH hn).pin upd_same
    have aM : a ∉ L ++ Γ.L0 := fun hL => by obtain ⟨o', kvs', q⟩ := E.fz.lk a hL; rw [hH] at q; cases q
    have hlk : ∀ p ∈ Γ.lk, p.1 ≠ a := fun p hp z => by
      obtain ⟨q1, o', u', q2⟩ := E.lks p hp
      rw [z, hH, q2] at q1; cases q1
    have un : ∀ {c : List Cl} {G' : Hp} {e' : PyI.Env} {σ' : L2.St} {H' : Hp}, EnvRel X.K (Γ.pin a (.frz od (.dK ks))) (a :: L) c G' e' σ' H' → Ex G G' → H' a = some (.frz od (.dK ks)) ∧ EnvRel X.K Γ L c G' e' σ' (upd H' a (.dK ks)) := fun E2 x => by
      have q := (E2.lks (a, .frz od (.dK ks)) List.mem_cons_self).1
      exact ⟨q, E2.unpin.unlock q (hn.mono x) aM hlk⟩
    refine ⟨_, _, G, env, kvs, a, od, ks, xs, E', hl, hσ, List.mem_cons_self, rk, hit, fun J w => for_use (lc := lc) (G0 := G) E' w hpr hf hio hco coer_refl h2 ?_⟩
    cases fl with
    | nxt e1 =>
      intro c hcc G2 σ2 H2 E2 x
      obtain ⟨q1, q2⟩ := un E2 x
      exact ⟨q1, k c hcc G2 σ2 _ q2 x⟩
    | ret d e1 =>
      intro c G2 v σ2 H2 E2 x r
      obtain ⟨q1, q2⟩ := un E2 x
      refine ⟨q1, k c G2 v σ2 _ q2 x ?_⟩
      cases fr with
      | false => exact r
      | true =>
        have r' : ResF X.K G2 Γ.H0 H2 v d := r
        have off : ∀ {p : Addr}, G2 p = none → Γ.H0 p = none → p ≠ a := fun g n => (hn.mono x).own g (.inl n)
        show ResF X.K G2 Γ.H0 (upd H2 a (.dK ks)) v d
        cases d with
        | lst ds =>
          obtain ⟨p, e, g, n, zs, h, rr⟩ := r'
          exact ⟨p, e, g, n, zs, by rw [upd_ne (off g n)]; exact h, rr⟩
        | dic ds =>
          obtain ⟨p, e, g, n, zs, h, rr⟩ := r'
          exact ⟨p, e, g, n, zs, by rw [upd_ne (off g n)]; exact h, rr⟩
        | _ => exact r'
    | brk e1 =>
      intro c hcc G2 σ2 H2 E2 x
      obtain ⟨q1, q2⟩ := un E2 x
      exact ⟨q1, k c hcc G2 σ2 _ q2 x⟩
    | cnt e1 =>
      intro c hcc G2 σ2 H2 E2 x
      obtain ⟨q1, q2⟩ := un E2 x
      exact ⟨q1, k c hcc G2 σ2 _ q2 x⟩
  · refine .inl ?_
    have E' := E.pin hH
    refine ⟨_, _, G, env, kvs, a, o, ks, xs, E', hl, hσ, List.mem_cons_self, rk, hit, fun J w => for_use (lc := lc) (G0 := G) E' w hpr hf hio hco coer_refl h2 ?_⟩
    cases fl with
    | nxt e1 => exact fun c hcc G2 σ2 H2 E2 x => k c hcc G2 σ2 H2 E2.unpin x
    | ret d e1 => exact fun c G2 v σ2 H2 E2 x r => k c G2 v σ2 H2 E2.unpin x r
    | brk e1 => exact fun c hcc G2 σ2 H2 E2 x => k c hcc G2 σ2 H2 E2.unpin x
    | cnt e1 => exact fun c hcc G2 σ2 H2 E2 x => k c hcc G2 σ2 H2 E2.unpin x
end
end PyI
end

section
set_option maxRecDepth 100000
set_option maxHeartbeats 4000000
namespace PyI
open PySem PySem.Spec PyProof.Rows L2
abbrev EvDX := PyI.Env → Option (D × PyI.Env)
/-- an owned object -/
def OwnA (cls : List Cl) (env : PyI.Env) (σ : L2.St) (b : Addr) : Prop := ∃ i d, clA cls i = .O ∧ env[i]? = some (some d) ∧ isMut d = true ∧ σ[i]? = some (some (.ref b))
structure StepE (cls : List Cl) (σ : L2.St) (env env' : PyI.Env) (G H G' H' : Hp) : Prop where
  hh : ∀ b o, ¬ OwnA cls env σ b → H b = some o → H' b = some o
  hn : ∀ b, H b ≠ none → H' b ≠ none
  gg : Ex G G'
  fr : ∀ b, G' b ≠ none → G b ≠ none ∨ H b = none
  sh : ∀ b, OwnA cls env' σ b ↔ OwnA cls env σ b
  off : ∀ i, clA cls i ≠ .O → env'[i]? = env[i]?
section
variable {K : PySem.W.Frag} {Γ : Gh} {L : List Addr} {cls : List Cl} {G H G' H' G1 H1 G2 H2 : Hp} {env env' env1 env2 : PyI.Env} {σ : L2.St} {v : V} {d : D} {a : Addr}
theorem StepE.refl : StepE cls σ env env G H G H := ⟨fun _ _ _ h => h, fun _ h => h, Ex.refl G, fun _ h => .inl h, fun _ => Iff.rfl, fun _ _ => rfl⟩
theorem StepE.trans (a : StepE cls σ env env1 G H G1 H1) (b : StepE cls σ env1 env2 G1 H1 G2 H2) : StepE cls σ env env2 G H G2 H2 where
  hh := fun x o h e => b.hh x o (fun z => h ((a.sh x).mp z)) (a.hh x o h e)
  hn := fun x h => b.hn x (a.hn x h)
  gg := a.gg.trans b.gg
  fr := fun x h => by
    rcases b.fr x h with q | q
    · exact a.fr x q
    · refine .inr ?_
      cases e : H x with
      | none => rfl
      | some o => exact absurd q (a.hn x (by rw [e]; simp))
  sh := fun x => (b.sh x).trans (a.sh x)
  off := fun i h => (b.off i h).trans (a.off i h)
theorem StepE.of (s : Step L G H G' H') : StepE cls σ env env G H G' H' :=
  ⟨fun b o _ e => s.hh b o e, fun b h => by
    cases e : H b with
    | none => exact absurd e h
    | some o => rw [s.hh b o e]; simp, s.gg, s.fr, fun _ => Iff.rfl, fun _ _ => rfl⟩
theorem StepE.back (s : StepE cls σ env env' G H G' H') {p : Addr} (h : H' p = none) : H p = none := by
  cases e : H p with
  | none => rfl
  | some o => exact absurd h (s.hn p (by rw [e]; simp))
theorem ResF.backE (s : StepE cls σ env env' G H G1 H1) (r : ResF K G' H1 H' v d) : ResF K G' H H' v d := by
  cases d with
  | lst ds => obtain ⟨p, e, g, n, q⟩ := r; exact ⟨p, e, g, s.back n, q⟩
  | dic ds => obtain ⟨p, e, g, n, q⟩ := r; exact ⟨p, e, g, s.back n, q⟩
  | _ => exact r
theorem PostB.backE {b : Bool} (s : StepE cls σ env env' G H G1 H1) (r : PostB K b G' H1 H' v d) : PostB K b G' H H' v d := by
  cases b with
  | true => exact ResF.backE s r
  | false => exact r
theorem OwnA.ne (E : EnvRel K Γ L cls G env σ H) {b : Addr} (h : OwnA cls env σ b) : H b ≠ none ∧ G b = none ∧ ∃ d, Own K G H b d := by
  obtain ⟨i, d, hc, he, hm, hs⟩ := h
  obtain ⟨v, e1, e2⟩ := E.sl i d he
  rw [hs] at e1
  cases e1
  rw [hc] at e2
  rcases e2 with ⟨m, _⟩ | ⟨a', ea, g, _, own⟩
  · rw [hm] at m; cases m
  · cases ea; exact ⟨own.ne, g, d, own⟩
/-- a new object is frozen -/
theorem EnvRel.freezeNew (E0 : EnvRel K Γ L cls G env σ H) (s : StepE cls σ env env' G H G' H') (E : EnvRel K Γ L cls G' env' σ H') (r : ResF K G' H H' v d) : ∃ G'', EnvRel K Γ L cls G'' env' σ H' ∧ StepE cls σ env env' G H G'' H' ∧ Rep K G'' v d := by
  by_cases m : isMut d = true
  · obtain ⟨a, rfl, g, n, own⟩ := r.own m
    have hno : ¬ OwnA cls env' σ a := fun z => (((s.sh a).mp z).ne E0).1 n
    have h0a : Γ.H0 a = none := by
      cases e : Γ.H0 a with
      | none => rfl
      | some o => exact absurd n (E0.h0 a (by rw [e]; simp))
    have aL : a ∉ L ++ Γ.L0 := E0.fz.nl n
    obtain ⟨o, ho, rp⟩ : ∃ o, H' a = some o ∧ Rep K (upd G' a o) (.ref a) d := by
      cases d with
      | lst ds => obtain ⟨xs, h, r⟩ := own; exact ⟨_, h, .lst (.inl (.inl upd_same)) (r.mono (Ex.new g))⟩
      | dic ds => obtain ⟨xs, h, r⟩ := own; exact ⟨_, h, .dic (.inl upd_same) (r.mono (Ex.new g))⟩
      | _ => exact own.elim
    have eG : Ex G' (upd G' a o) := Ex.new g
    refine ⟨upd G' a o, {
      fz := E.fz.freeze ho aL g
      g0 := E.g0.trans eG
      gf := fun b hb => by
        by_cases z : b = a
        · rw [z]; exact .inr h0a
        · rw [upd_ne z] at hb; exact E.gf b hb
      h0 := E.h0
      kp := E.kp
      len := E.len
      cl := E.cl
      sl := fun j e h => by
        obtain ⟨w, x1, x2⟩ := E.sl j e h
        refine ⟨w, x1, ?_⟩
        cases c : clA cls j with
        | F => rw [c] at x2; exact Rep.mono eG x2
        | B =>
          rw [c] at x2
          rcases x2 with x2 | ⟨b, rfl, y1, y2⟩
          · exact .inl (x2.mono eG)
          · exact .inr ⟨b, rfl, y1, y2.mono eG⟩
        | O =>
          rw [c] at x2
          rcases x2 with ⟨m, x2⟩ | ⟨b, rfl, g2, y1, y2⟩
          · exact .inl ⟨m, x2.mono eG⟩
          · have hb : b ≠ a := fun z => by subst z; exact hno ⟨j, e, c, h, y2.mut, x1⟩
            exact .inr ⟨b, rfl, by rw [upd_ne hb]; exact g2, y1, y2.ex eG (Ex.refl H')⟩
      ap := E.ap
      io := E.io
      ib := E.ib
      lks := E.lks }, { s with
      gg := s.gg.trans eG
      fr := fun b hb => by
        by_cases z : b = a
        · rw [z]; exact .inr n
        · rw [upd_ne z] at hb; exact s.fr b hb }, rp⟩
  · exact ⟨G', E, s, r.im (by simpa using m)⟩
end
/-! ### readings -/
def tE (K : PySem.W.Frag) (cls : List Cl) (Post : Hp → Hp → Hp → V → D → Prop) (ev : EvDX) : TE := fun σ H Q => ∃ Γ L G env d env', EnvRel K Γ L cls G env σ H ∧ ev env = some (d, env') ∧
  ∀ v G' H', EnvRel K Γ L cls G' env' σ H' → StepE cls σ env env' G H G' H' → Post G' H H' v d → Q v H'
def tTE (K : PySem.W.Frag) (cls : List Cl) (ev : EvDX) : TT := fun σ H Q => ∃ Γ L G env b env', EnvRel K Γ L cls G env σ H ∧ ev env = some (.bl b, env') ∧
  ∀ G' H', EnvRel K Γ L cls G' env' σ H' → StepE cls σ env env' G H G' H' → Q b H'
def pureX (ea : EvD) : EvDX := fun env => match ea env with
  | some d => some (d, env)
  | none => none
theorem pureX_inv {ea : EvD} {env env' : PyI.Env} {d : D} (h : pureX ea env = some (d, env')) : ea env = some d ∧ env' = env := by
  unfold pureX at h
  split at h
  · cases h; exact ⟨by assumption, rfl⟩
  · cases h
section
variable {X : Cx} {cls : List Cl} {e a b c : PySem.Expr} {ea eb ec : EvD} {xa xb xc : EvDX} {pos : Pos} {Post : Hp → Hp → Hp → V → D → Prop}
theorem e_pure (h : PE X e (tG X.K cls Post ea)) : PE X e (tE X.K cls Post (pureX ea)) :=
  PE.imp h fun σ H Q ⟨Γ, L, G, env, d, env', E, hv, k⟩ => by
    obtain ⟨h1, rfl⟩ := pureX_inv hv
    exact ⟨Γ, L, G, env', d, E, h1, fun v G' H' s r => k v G' H' (E.step s) (StepE.of s) r⟩
theorem e_pureT (h : PT X e (tT X.K cls ea)) : PT X e (tTE X.K cls (pureX ea)) :=
  PT.imp h fun σ H Q ⟨Γ, L, G, env, b, env', E, hv, k⟩ => by
    obtain ⟨h1, rfl⟩ := pureX_inv hv
    exact ⟨Γ, L, G, env', b, E, h1, fun G' H' s => k G' H' (E.step s) (StepE.of s)⟩
theorem e_pureW (h : PW X e (tT X.K cls ea)) : PW X e (tTE X.K cls (pureX ea)) :=
  ⟨fun wh pins s σ H Q I z => h.run wh pins s σ H Q I (by
    obtain ⟨Γ, L, G, env, b, env', E, hv, k⟩ := z
    obtain ⟨h1, rfl⟩ := pureX_inv hv
    exact ⟨Γ, L, G, env', b, E, h1, fun G' H' s => k G' H' (E.step s) (StepE.of s)⟩)⟩
theorem e_V {bb : Bool} (h : PE X e (tE X.K cls (PX X.K bb) xa)) : PE X e (tE X.K cls (PV X.K) xa) := by
  cases bb with
  | false => exact h
  | true =>
    refine PE.imp h fun σ H Q ⟨Γ, L, G, env, d, env', E, hv, k⟩ => ⟨Γ, L, G, env, d, env', E, hv, fun v G' H' E' s r => ?_⟩
    obtain ⟨G'', E'', s', r'⟩ := E.freezeNew s E' r
    exact k v G'' H' E'' s' r'
theorem e_T (h : PE X e (tE X.K cls (PV X.K) xa)) (he : ∀ whole, isTrue e X.env whole = (do let v ← whole; standAt e.pos; holding [v] (truthy v))) : PT X e (tTE X.K cls xa) :=
  PT.imp (pt_val h he) fun σ H Q ⟨Γ, L, G, env, k, env', E, hl, q⟩ => ⟨Γ, L, G, env, .bl k, env', E, hl, fun v G' H' E' s r => by
    have r' : Rep X.K G' v (.bl k) := r
    cases r'
    exact ⟨k, rfl, q G' H' E' s⟩⟩
/-! operators -/
def e2X (o : Op2) (xa xb : EvDX) : EvDX := fun env => match xa env with
  | some (x, e1) => (match xb e1 with
    | some (y, e2) => (match sem2 o x y with
      | some d => some (d, e2)
      | none => none)
    | none => none)
  | none => none
theorem e2X_inv {o : Op2} {env env' : PyI.Env} {d : D} (h : e2X o xa xb env = some (d, env')) : ∃ x y e1, xa env = some (x, e1) ∧ xb e1 = some (y, env') ∧ sem2 o x y = some d := by
  unfold e2X at h
  split at h
  · rename_i x e1 hx
    split at h
    · rename_i y e2 hy
      split at h
      · cases h; exact ⟨x, y, e1, hx, hy, by assumption⟩
      · cases h
    · cases h
  · cases h
theorem use2E {o : Op2} (σ : L2.St) (H : Hp) (Q : VK) (h : tE X.K cls (PX X.K (freshOp2 o)) (e2X o xa xb) σ H Q) : tOp (rS X.K o) (tE X.K cls (PV X.K) xa) (tE X.K cls (PV X.K) xb) σ H Q := by
  obtain ⟨Γ, L, G, env, d, env', E, hl, k⟩ := h
  obtain ⟨x, y, e1, hx, hy, hs⟩ := e2X_inv hl
  refine ⟨Γ, L, G, env, x, e1, E, hx, fun v G1 H1 E1 s1 r1 => ⟨Γ, L, G1, e1, y, env', E1, hy, fun w G2 H2 E2 s2 r2 => ?_⟩⟩
  have r1' : Rep X.K G2 v x := Rep.mono s2.gg r1
  have r2' : Rep X.K G2 w y := r2
  exact ⟨_, G2, x, y, d, E2.fz, r1'.toT E2.fz, r2'.toT E2.fz, hs, fun z G' H' s r => k z G' H' (E2.step s) ((s1.trans s2).trans (StepE.of s)) (r.backE (s1.trans s2))⟩
theorem e_bin {o : Op2} {op : Operator} (ho : OpR X (binaryOp op) (rS X.K o)) (ha : PE X a (tE X.K cls (PV X.K) xa)) (hb : PE X b (tE X.K cls (PV X.K) xb)) : PE X (.BinOp a op b pos) (tE X.K cls (PX X.K (freshOp2 o)) (e2X o xa xb)) :=
  PE.imp (pe_op ho ha hb) fun σ H Q h => use2E σ H Q h
theorem e_cmp {o : Op2} {op : CmpOp} (ho : OpR X (compareOp op) (rS X.K o)) (ha : PE X a (tE X.K cls (PV X.K) xa)) (hb : PE X b (tE X.K cls (PV X.K) xb)) (hm : behindInMarks op b = false) : PE X (.Compare a [op] [b] pos) (tE X.K cls (PX X.K (freshOp2 o)) (e2X o xa xb)) :=
  PE.imp (pe_cmpR ho ha hb hm) fun σ H Q h => use2E σ H Q h
theorem e_cmpT {o : Op2} {op : CmpOp} (hf : freshOp2 o = false) (ho : OpR X (compareOp op) (rS X.K o)) (ha : PE X a (tE X.K cls (PV X.K) xa)) (hb : PE X b (tE X.K cls (PV X.K) xb)) (hm : behindInMarks op b = false) : PT X (.Compare a [op] [b] pos) (tTE X.K cls (e2X o xa xb)) :=
  PT.imp (pt_cmpR ho ha hb hm) fun σ H Q ⟨Γ, L, G, env, k, env', E, hl, q⟩ => use2E σ H _ ⟨Γ, L, G, env, .bl k, env', E, hl, fun v G' H' E' s r => by
    rw [hf] at r
    have r' : Rep X.K G' v (.bl k) := r
    cases r'
    exact ⟨k, rfl, q G' H' E' s⟩⟩
theorem e_ix (hu : X.A.units + 1 < cLine) (ha : PE X a (tE X.K cls (PV X.K) xa)) (hb : PE X b (tE X.K cls (PV X.K) xb)) (hn : notSlice b = true) : PE X (.Subscript a b pos) (tE X.K cls (PV X.K) (e2X .ix xa xb)) := by
  have h1 : PlainIx b := by intro o i; cases b <;> first | rfl | cases hn
  have h2 : NoSl b := by intro o i; cases b <;> first | rfl | cases hn
  refine PE.imp (PE.or (pe_ix ix_seq ha hb h1) (pe_dget hu ha hb h2)) fun σ H Q ⟨Γ, L, G, env, d, env', E, hl, k⟩ => ?_
  obtain ⟨x, y, e1, hx, hy, hs⟩ := e2X_inv hl
  by_cases hd : ∃ kvs, x = .dic kvs
  · obtain ⟨kvs, rfl⟩ := hd
    refine .inr ⟨Γ, L, G, env, _, e1, E, hx, fun v G1 H1 E1 s1 r1 => ⟨Γ, L, G1, e1, y, env', E1, hy, fun w G2 H2 E2 s2 r2 => ?_⟩⟩
    have r1' : Rep X.K G2 v (.dic kvs) := Rep.mono s2.gg r1
    have r2' : Rep X.K G2 w y := r2
    have hs' : (match keyOf y with | some k => dget kvs k | none => none) = some d := hs
    cases hk : keyOf y with
    | none => rw [hk] at hs'; cases hs'
    | some key =>
      rw [hk] at hs'
      obtain ⟨a, o, rfl, g, _, get⟩ := dgetT (k := key) (r1'.toT E2.fz)
      obtain ⟨u, rfl, ru⟩ := get d hs'
      cases keyT (r2'.toT E2.fz) hk
      exact ⟨a, u, rfl, g, k u G2 H2 E2 (s1.trans s2) ru⟩
  · refine .inl ⟨Γ, L, G, env, x, e1, E, hx, fun v G1 H1 E1 s1 r1 => ⟨Γ, L, G1, e1, y, env', E1, hy, fun w G2 H2 E2 s2 r2 => ?_⟩⟩
    have r1' : Rep X.K G2 v x := Rep.mono s2.gg r1
    have r2' : Rep X.K G2 w y := r2
    exact ixS_seq E2.fz (r1'.toT E2.fz) (r2'.toT E2.fz) hs (fun kvs e => hd ⟨kvs, e⟩) fun v G' H' s r => k v G' H' (E2.step s) ((s1.trans s2).trans (StepE.of s)) r
/-! and, or, not, if -/
def eNotX (xa : EvDX) : EvDX := fun env => match xa env with
  | some (.bl b, e1) => some (.bl (!b), e1)
  | _ => none
theorem eNotX_inv {env env' : PyI.Env} {d : D} (h : eNotX xa env = some (d, env')) : ∃ k, xa env = some (.bl k, env') ∧ d = .bl (!k) := by
  unfold eNotX at h
  split at h
  · cases h; exact ⟨_, by assumption, rfl⟩
  · cases h
theorem e_notT (h : PT X a (tTE X.K cls xa)) : PT X (.UnaryOp .Not a pos) (tTE X.K cls (eNotX xa)) :=
  PT.imp (pt_not h) fun σ H Q ⟨Γ, L, G, env, k, env', E, hl, q⟩ => by
    obtain ⟨k', h1, h2⟩ := eNotX_inv hl
    cases h2
    exact ⟨Γ, L, G, env, k', env', E, h1, fun G' H' E' s => q G' H' E' s⟩
theorem e_not (h : PE X a (tE X.K cls (PV X.K) xa)) : PE X (.UnaryOp .Not a pos) (tE X.K cls (PV X.K) (eNotX xa)) :=
  PE.imp (pe_not h) fun σ H Q ⟨Γ, L, G, env, d, env', E, hl, q⟩ => by
    obtain ⟨k', h1, h2⟩ := eNotX_inv hl
    subst h2
    exact ⟨Γ, L, G, env, .bl k', env', E, h1, fun v G' H' E' s r => by
      have r' : Rep X.K G' v (.bl k') := r
      cases r'
      exact ⟨k', rfl, q _ G' H' E' s (Rep.bl _)⟩⟩
def eAndX (xa xb : EvDX) : EvDX := fun env => match xa env with
  | some (.bl true, e1) => (match xb e1 with
    | some (.bl k, e2) => some (.bl k, e2)
    | _ => none)
  | some (.bl false, e1) => some (.bl false, e1)
  | _ => none
def eOrX (xa xb : EvDX) : EvDX := fun env => match xa env with
  | some (.bl false, e1) => (match xb e1 with
    | some (.bl k, e2) => some (.bl k, e2)
    | _ => none)
  | some (.bl true, e1) => some (.bl true, e1)
  | _ => none
theorem eAndX_inv {env env' : PyI.Env} {d : D} (h : eAndX xa xb env = some (d, env')) : (xa env = some (.bl false, env') ∧ d = .bl false) ∨ ∃ k e1, xa env = some (.bl true, e1) ∧ xb e1 = some (.bl k, env') ∧ d = .bl k := by
  unfold eAndX at h
  split at h
  · rename_i e1 hx
    split at h
    · rename_i k e2 hy; cases h; exact .inr ⟨k, e1, hx, hy, rfl⟩
    · cases h
  · rename_i hx; cases h; exact .inl ⟨hx, rfl⟩
  · cases h
theorem eOrX_inv {env env' : PyI.Env} {d : D} (h : eOrX xa xb env = some (d, env')) : (xa env = some (.bl true, env') ∧ d = .bl true) ∨ ∃ k e1, xa env = some (.bl false, e1) ∧ xb e1 = some (.bl k, env') ∧ d = .bl k := by
  unfold eOrX at h
  split at h
  · rename_i e1 hx
    split at h
    · rename_i k e2 hy; cases h; exact .inr ⟨k, e1, hx, hy, rfl⟩
    · cases h
  · rename_i hx; cases h; exact .inl ⟨hx, rfl⟩
  · cases h
theorem e_andW {rest : List PySem.Expr} (ha : PT X a (tTE X.K cls xa)) (hb : PW X (.BoolOp .And (b :: rest) pos) (tTE X.K cls xb)) : PW X (.BoolOp .And (a :: b :: rest) pos) (tTE X.K cls (eAndX xa xb)) := by
  refine ⟨fun wh pins s σ H Q I h => (pw_and ha hb).run wh pins s σ H Q I ?_⟩
  obtain ⟨Γ, L, G, env, k, env', E, hl, q⟩ := h
  rcases eAndX_inv hl with ⟨h1, h2⟩ | ⟨k', e1, h1, h2, h3⟩
  · cases h2
    exact ⟨Γ, L, G, env, false, env', E, h1, fun G' H' E' s => q G' H' E' s⟩
  · cases h3
    exact ⟨Γ, L, G, env, true, e1, E, h1, fun G1 H1 E1 s1 => ⟨Γ, L, G1, e1, k, env', E1, h2, fun G' H' E' s => q G' H' E' (s1.trans s)⟩⟩
theorem e_orW {rest : List PySem.Expr} (ha : PT X a (tTE X.K cls xa)) (hb : PW X (.BoolOp .Or (b :: rest) pos) (tTE X.K cls xb)) : PW X (.BoolOp .Or (a :: b :: rest) pos) (tTE X.K cls (eOrX xa xb)) := by
  refine ⟨fun wh pins s σ H Q I h => (pw_or ha hb).run wh pins s σ H Q I ?_⟩
  obtain ⟨Γ, L, G, env, k, env', E, hl, q⟩ := h
  rcases eOrX_inv hl with ⟨h1, h2⟩ | ⟨k', e1, h1, h2, h3⟩
  · cases h2
    exact ⟨Γ, L, G, env, true, env', E, h1, fun G' H' E' s => q G' H' E' s⟩
  · cases h3
    exact ⟨Γ, L, G, env, false, e1, E, h1, fun G1 H1 E1 s1 => ⟨Γ, L, G1, e1, k, env', E1, h2, fun G' H' E' s => q G' H' E' (s1.trans s)⟩⟩
theorem e_andV {rest : List PySem.Expr} (ha : PE X a (tE X.K cls (PV X.K) xa)) (hb : PE X (.BoolOp .And (b :: rest) pos) (tE X.K cls (PV X.K) xb)) : PE X (.BoolOp .And (a :: b :: rest) pos) (tE X.K cls (PV X.K) (eAndX xa xb)) :=
  PE.imp (pe_and ha hb) fun σ H Q ⟨Γ, L, G, env, d, env', E, hl, q⟩ => by
    rcases eAndX_inv hl with ⟨h1, h2⟩ | ⟨k', e1, h1, h2, h3⟩
    · subst h2
      exact ⟨Γ, L, G, env, _, env', E, h1, fun v G' H' E' s r => by
        have r' : Rep X.K G' v (.bl false) := r
        cases r'
        exact ⟨false, rfl, q _ G' H' E' s (Rep.bl _)⟩⟩
    · subst h3
      exact ⟨Γ, L, G, env, _, e1, E, h1, fun v G1 H1 E1 s1 r => by
        have r' : Rep X.K G1 v (.bl true) := r
        cases r'
        exact ⟨true, rfl, ⟨Γ, L, G1, e1, _, env', E1, h2, fun v G' H' E' s r => q v G' H' E' (s1.trans s) r⟩⟩⟩
theorem e_orV {rest : List PySem.Expr} (ha : PE X a (tE X.K cls (PV X.K) xa)) (hb : PE X (.BoolOp .Or (b :: rest) pos) (tE X.K cls (PV X.K) xb)) : PE X (.BoolOp .Or (a :: b :: rest) pos) (tE X.K cls (PV X.K) (eOrX xa xb)) :=
  PE.imp (pe_or ha hb) fun σ H Q ⟨Γ, L, G, env, d, env', E, hl, q⟩ => by
    rcases eOrX_inv hl with ⟨h1, h2⟩ | ⟨k', e1, h1, h2, h3⟩
    · subst h2
      exact ⟨Γ, L, G, env, _, env', E, h1, fun v G' H' E' s r => by
        have r' : Rep X.K G' v (.bl true) := r
        cases r'
        exact ⟨true, rfl, q _ G' H' E' s (Rep.bl _)⟩⟩
    · subst h3
      exact ⟨Γ, L, G, env, _, e1, E, h1, fun v G1 H1 E1 s1 r => by
        have r' : Rep X.K G1 v (.bl false) := r
        cases r'
        exact ⟨false, rfl, ⟨Γ, L, G1, e1, _, env', E1, h2, fun v G' H' E' s r => q v G' H' E' (s1.trans s) r⟩⟩⟩
end
end PyI
end

section
set_option maxRecDepth 100000
set_option maxHeartbeats 4000000
namespace PyI
open PySem PySem.Spec PyProof.Rows L2
/-- arguments: frozen, an owned slot handed over, or a new object (H0: the heap ahead) -/
inductive RepXs (K : PySem.W.Frag) (σ : L2.St) (H0 G H : Hp) : List Md → List V → List D → Prop
  | nil : RepXs K σ H0 G H [] [] []
  | consV {ms : List Md} {v : V} {d : D} {vs : List V} {ds : List D} : Rep K G v d → RepXs K σ H0 G H ms vs ds → RepXs K σ H0 G H (.v :: ms) (v :: vs) (d :: ds)
  | consIo {ms : List Md} {i : Nat} {v : V} {d : D} {vs : List V} {ds : List D} : σ[i]? = some (some v) → RepXs K σ H0 G H ms vs ds → RepXs K σ H0 G H (.io i :: ms) (v :: vs) (d :: ds)
  | consNew {ms : List Md} {v : V} {d : D} {vs : List V} {ds : List D} : ResF K G H0 H v d → RepXs K σ H0 G H ms vs ds → RepXs K σ H0 G H (.nw :: ms) (v :: vs) (d :: ds)
theorem RepXs.all {K : PySem.W.Frag} {σ : L2.St} {H0 G H : Hp} : ∀ {ms : List Md} {vs : List V} {ds : List D}, RepXs K σ H0 G H ms vs ds → (∀ m ∈ ms, m = .v) → RepL K G vs ds
  | _, _, _, .nil, _ => .nil
  | _, _, _, .consV r h, q => .cons r (RepXs.all h fun m hm => q m (List.mem_cons_of_mem _ hm))
  | _, _, _, .consIo r h, q => by cases q _ List.mem_cons_self
  | _, _, _, .consNew r h, q => by cases q _ List.mem_cons_self
theorem RepXs.len {K : PySem.W.Frag} {σ : L2.St} {H0 G H : Hp} : ∀ {ms : List Md} {vs : List V} {ds : List D}, RepXs K σ H0 G H ms vs ds → vs.length = ds.length ∧ ms.length = ds.length
  | _, _, _, .nil => ⟨rfl, rfl⟩
  | _, _, _, .consV r h => by simp [(RepXs.len h).1, (RepXs.len h).2]
  | _, _, _, .consIo r h => by simp [(RepXs.len h).1, (RepXs.len h).2]
  | _, _, _, .consNew r h => by simp [(RepXs.len h).1, (RepXs.len h).2]
theorem ResF.pre {K : PySem.W.Frag} {H0 H1 G H : Hp} {v : V} {d : D} (b : ∀ p, H1 p = none → H0 p = none) (r : ResF K G H1 H v d) : ResF K G H0 H v d := by
  cases d with
  | lst ds => obtain ⟨p, e, g, n, q⟩ := r; exact ⟨p, e, g, b p n, q⟩
  | dic ds => obtain ⟨p, e, g, n, q⟩ := r; exact ⟨p, e, g, b p n, q⟩
  | _ => exact r
theorem RepXs.pre {K : PySem.W.Frag} {σ : L2.St} {H0 H1 G H : Hp} (b : ∀ p, H1 p = none → H0 p = none) : ∀ {ms : List Md} {vs : List V} {ds : List D}, RepXs K σ H1 G H ms vs ds → RepXs K σ H0 G H ms vs ds
  | _, _, _, .nil => .nil
  | _, _, _, .consV r h => .consV r (RepXs.pre b h)
  | _, _, _, .consIo r h => .consIo r (RepXs.pre b h)
  | _, _, _, .consNew r h => .consNew (r.pre b) (RepXs.pre b h)
/-- a new object stands while others are written -/
theorem ResF.keep {K : PySem.W.Frag} {Γ : Gh} {L : List Addr} {cls : List Cl} {σ : L2.St} {G H G1 H1 G2 H2 : Hp} {env e1 e2 : PyI.Env} {v : V} {d : D} (E : EnvRel K Γ L cls G env σ H) (s1 : StepE cls σ env e1 G H G1 H1) (s2 : StepE cls σ e1 e2 G1 H1 G2 H2) (r : ResF K G1 H H1 v d) : ResF K G2 H H2 v d := by
  by_cases m : isMut d = true
  · obtain ⟨a, rfl, g, n, own⟩ := r.own m
    have hno : ¬ OwnA cls e1 σ a := fun z => (((s1.sh a).mp z).ne E).1 n
    refine ResF.of ?_ ?_ n
    · cases d with
      | lst ds => obtain ⟨xs, h, r⟩ := own; exact ⟨xs, s2.hh a _ hno h, r.mono s2.gg⟩
      | dic ds => obtain ⟨xs, h, r⟩ := own; exact ⟨xs, s2.hh a _ hno h, r.mono s2.gg⟩
      | _ => exact own.elim
    · cases q : G2 a with
      | none => rfl
      | some o =>
        rcases s2.fr a (by rw [q]; simp) with y | y
        · exact absurd g y
        · exact absurd y own.ne
  · have m' : isMut d = false := by simpa using m
    exact Rep.im m' (Rep.mono s2.gg (r.im m'))
abbrev EvDXs := PyI.Env → Option (List D × PyI.Env)
def tAE (K : PySem.W.Frag) (cls : List Cl) (ms : List Md) (ev : EvDXs) : TA := fun σ H Q => ∃ Γ L G env ds env', EnvRel K Γ L cls G env σ H ∧ ev env = some (ds, env') ∧
  ∀ vs G' H', EnvRel K Γ L cls G' env' σ H' → StepE cls σ env env' G H G' H' → RepXs K σ H G' H' ms vs ds → Q vs H'
def eConsX (xa : EvDX) (xs : EvDXs) : EvDXs := fun env => match xa env with
  | some (x, e1) => (match xs e1 with
    | some (r, e2) => some (x :: r, e2)
    | none => none)
  | none => none
theorem eConsX_inv {xa : EvDX} {xs : EvDXs} {env env' : PyI.Env} {ds : List D} (h : eConsX xa xs env = some (ds, env')) : ∃ x r e1, xa env = some (x, e1) ∧ xs e1 = some (r, env') ∧ ds = x :: r := by
  unfold eConsX at h
  split at h
  · rename_i x e1 hx
    split at h
    · rename_i r e2 hr; cases h; exact ⟨x, r, e1, hx, hr, rfl⟩
    · cases h
  · cases h
section
variable {X : Cx} {cls : List Cl} {e a b c : PySem.Expr} {xa xb xc : EvDX} {xes : EvDXs} {pos p : Pos} {ms : List Md}
theorem x_nilA : PA X [] (tAE X.K cls [] fun env => some ([], env)) :=
  PA.imp pa_nil fun σ H Q ⟨Γ, L, G, env, ds, env', E, hl, k⟩ => by
    cases hl
    exact k [] G H E StepE.refl .nil
theorem x_consV {es : List PySem.Expr} (ha : PE X a (tE X.K cls (PV X.K) xa)) (hr : PA X es (tAE X.K cls ms xes)) (hs : starEach (a :: es) X.env = (false, eval a X.env) :: starEach es X.env) : PA X (a :: es) (tAE X.K cls (.v :: ms) (eConsX xa xes)) :=
  PA.imp (pa_cons ha hr hs) fun σ H Q ⟨Γ, L, G, env, ds, env', E, hl, k⟩ => by
    obtain ⟨x, r, e1, h1, h2, rfl⟩ := eConsX_inv hl
    exact ⟨Γ, L, G, env, x, e1, E, h1, fun v G1 H1 E1 s1 r1 => ⟨Γ, L, G1, e1, r, env', E1, h2, fun vs G2 H2 E2 s2 r2 => k (v :: vs) G2 H2 E2 (s1.trans s2) (.consV (Rep.mono s2.gg r1) (r2.pre fun p => s1.back))⟩⟩
theorem x_consNew {es : List PySem.Expr} (ha : PE X a (tE X.K cls (PX X.K true) xa)) (hr : PA X es (tAE X.K cls ms xes)) (hs : starEach (a :: es) X.env = (false, eval a X.env) :: starEach es X.env) : PA X (a :: es) (tAE X.K cls (.nw :: ms) (eConsX xa xes)) :=
  PA.imp (pa_cons ha hr hs) fun σ H Q ⟨Γ, L, G, env, ds, env', E, hl, k⟩ => by
    obtain ⟨x, r, e1, h1, h2, rfl⟩ := eConsX_inv hl
    exact ⟨Γ, L, G, env, x, e1, E, h1, fun v G1 H1 E1 s1 r1 => ⟨Γ, L, G1, e1, r, env', E1, h2, fun vs G2 H2 E2 s2 r2 => k (v :: vs) G2 H2 E2 (s1.trans s2) (.consNew (ResF.keep E s1 s2 r1) (r2.pre fun p => s1.back))⟩⟩
theorem x_consIo {es : List PySem.Expr} {x : Str} {i : Nat} {p1 : Pos} (hN : X.N[i]? = some x) (hv : Vis X.env.scope x) (h1 : (x == ("__debug__" : Str)) = false) (h2 : (x == ("__classdict__" : Str)) = false) (hr : PA X es (tAE X.K cls ms xes)) : PA X (.Name x p1 :: es) (tAE X.K cls (.io i :: ms) (eConsX (pureX fun env => look env i) xes)) :=
  PA.imp (pa_cons (pe_var hN hv h1 h2) hr rfl) fun σ H Q ⟨Γ, L, G, env, ds, env', E, hl, k⟩ => by
    obtain ⟨y, r, e1, q1, q2, rfl⟩ := eConsX_inv hl
    obtain ⟨q3, rfl⟩ := pureX_inv q1
    obtain ⟨v, z1, _⟩ := E.look q3
    exact ⟨v, z1, ⟨Γ, L, G, e1, r, env', E, q2, fun vs G2 H2 E2 s2 r2 => k (v :: vs) G2 H2 E2 s2 (.consIo z1 r2)⟩⟩
/-! displays -/
def eTupX (xes : EvDXs) : EvDX := fun env => match xes env with
  | some (ds, e1) => some (.tup ds, e1)
  | none => none
def eLstX (xes : EvDXs) : EvDX := fun env => match xes env with
  | some (ds, e1) => some (.lst ds, e1)
  | none => none
theorem x_tup {es : List PySem.Expr} {x1 : Nat} (h : PA X es (tAE X.K cls ms xes)) (hm : ∀ m ∈ ms, m = .v) (hz : ms.length ≤ 1000) : PE X (.Tuple es x1 pos) (tE X.K cls (PV X.K) (eTupX xes)) :=
  PE.imp (pe_tupN h) fun σ H Q ⟨Γ, L, G, env, d, env', E, hl, k⟩ => by
    unfold eTupX at hl
    cases hx : xes env with
    | none => rw [hx] at hl; cases hl
    | some q =>
      obtain ⟨ds, e1⟩ := q
      rw [hx] at hl
      cases hl
      refine ⟨Γ, L, G, env, ds, env', E, hx, fun vs G1 H1 E1 s1 r1 => ⟨?_, fun p its hp => new_tup E1.fz (r1.all hm) (fun v G' H' s r => k v G' H' (E1.step s) (s1.trans (StepE.of s)) r) its hp⟩⟩
      have := r1.len
      exact Nat.le_trans (by omega) (show 1000 ≤ sizeLine by decide)
theorem x_lst {es : List PySem.Expr} (h : PA X es (tAE X.K cls ms xes)) (hm : ∀ m ∈ ms, m = .v) (hz : ms.length ≤ 1000) : PE X (.List es pos) (tE X.K cls (PX X.K true) (eLstX xes)) :=
  PE.imp (pe_lst h) fun σ H Q ⟨Γ, L, G, env, d, env', E, hl, k⟩ => by
    unfold eLstX at hl
    cases hx : xes env with
    | none => rw [hx] at hl; cases hl
    | some q =>
      obtain ⟨ds, e1⟩ := q
      rw [hx] at hl
      cases hl
      refine ⟨Γ, L, G, env, ds, env', E, hx, fun vs G1 H1 E1 s1 r1 => ⟨?_, fun p hp => new_lst E1.fz (r1.all hm) (fun v G' H' s r => k v G' H' (E1.step s) (s1.trans (StepE.of s)) (ResF.backE s1 r)) hp⟩⟩
      have := r1.len
      exact Nat.le_trans (by omega) (show 1000 ≤ sizeLine by decide)
/-! built-in calls of one argument -/
def e1X (o : Op1) (xa : EvDX) : EvDX := fun env => match xa env with
  | some (x, e1) => (match sem1 o x with
    | some d => some (d, e1)
    | none => none)
  | none => none
theorem e1X_inv {o : Op1} {env env' : PyI.Env} {d : D} (h : e1X o xa env = some (d, env')) : ∃ x, xa env = some (x, env') ∧ sem1 o x = some d := by
  unfold e1X at h
  split at h
  · split at h
    · cases h; exact ⟨_, by assumption, by assumption⟩
    · cases h
  · cases h
theorem use1E {o : Op1} {ev : EvDXs} (hev : ∀ env d env', xa env = some (d, env') → ev env = some ([d], env')) (σ : L2.St) (H : Hp) (Q : VK) (h : tE X.K cls (PX X.K (freshOp1 o)) (e1X o xa) σ H Q) : tCB (r1 X.K o) (tAE X.K cls [.v] ev) σ H Q := by
  obtain ⟨Γ, L, G, env, d, env', E, hl, k⟩ := h
  obtain ⟨x, hx, hs⟩ := e1X_inv hl
  refine ⟨Γ, L, G, env, [x], env', E, hev _ _ _ hx, fun vs G1 H1 E1 s1 r1 => ?_⟩
  cases r1 with
  | consV t r =>
    cases r
    exact ⟨_, G1, _, x, d, rfl, E1.fz, t.toT E1.fz, hs, fun v G' H' s r => k v G' H' (E1.step s) (s1.trans (StepE.of s)) (r.backE s1)⟩
theorem x_one (ha : PE X a (tE X.K cls (PV X.K) xa)) (hn : notStar a = true) : PA X [a] (tAE X.K cls [.v] (eConsX xa fun env => some ([], env))) ∧ starEach [a] X.env = (false, eval a X.env) :: starEach [] X.env := by
  have hs : starEach [a] X.env = (false, eval a X.env) :: starEach [] X.env := by cases a <;> first | rfl | cases hn
  exact ⟨x_consV ha x_nilA hs, hs⟩
theorem x_oneE (env : PyI.Env) (d : D) (env' : PyI.Env) (h : xa env = some (d, env')) : eConsX xa (fun env => some ([], env)) env = some ([d], env') := by
  unfold eConsX; rw [h]
theorem x_call1B {o : Op1} {id : String} {x : Str} (hc : CallR X (.builtin id) (r1 X.K o)) (hg : Gl X x) (hm : X.mg x = none) (hv : bootBuiltins x = some (.builtin id)) (ha : PE X a (tE X.K cls (PV X.K) xa)) (hn : notStar a = true) (h1 : x ≠ "__name__") (h2 : (x == ("__debug__" : Str)) = false) :
    PE X (.Call (.Name x p) [a] [] pos) (tE X.K cls (PX X.K (freshOp1 o)) (e1X o xa)) := by
  obtain ⟨pa, hs⟩ := x_one ha hn
  exact PE.imp (pe_callB hc hg hm hv pa h1 h2 hs rfl) (use1E x_oneE)
theorem x_call1T {o : Op1} {T : String} {x : Str} (hc : CallR X (.type T) (r1 X.K o)) (hg : Gl X x) (hm : X.mg x = none) (hv : bootBuiltins x = some (.type T)) (ha : PE X a (tE X.K cls (PV X.K) xa)) (hn : notStar a = true) (h1 : x ≠ "__name__") (h2 : (x == ("__debug__" : Str)) = false) :
    PE X (.Call (.Name x p) [a] [] pos) (tE X.K cls (PX X.K (freshOp1 o)) (e1X o xa)) := by
  obtain ⟨pa, hs⟩ := x_one ha hn
  exact PE.imp (pe_callTy hc hg hm hv pa h1 h2 hs rfl) (use1E x_oneE)
theorem x_call1 (hu : X.A.units + 121 < cLine) (hc : X.calm = true) {o : Op1} {x y : Str} (hx : nm1 o = some y) (hxy : x = y) (hg : Gl X x) (hm : X.mg x = none) (h2 : (x == ("__debug__" : Str)) = false) (ha : PE X a (tE X.K cls (PV X.K) xa)) (hn : notStar a = true) :
    PE X (.Call (.Name x p) [a] [] pos) (tE X.K cls (PX X.K (freshOp1 o)) (e1X o xa)) := by
  have hu' : X.A.units + 120 < cLine := by omega
  subst hxy
  cases o with
  | neg => cases hx
  | not_ => cases hx
  | len => cases hx; exact x_call1B c_len hg hm boot_len ha hn (by decide) h2
  | all_ => cases hx; exact x_call1B (c_all hc) hg hm boot_all_ ha hn (by decide) h2
  | any_ => cases hx; exact x_call1B (c_any hc) hg hm boot_any_ ha hn (by decide) h2
  | sum_ => cases hx; exact x_call1B (c_sum hc) hg hm boot_sum_ ha hn (by decide) h2
  | sorted_ => cases hx; exact x_call1B (c_sortedL hu' hc) hg hm boot_sorted_ ha hn (by decide) h2
  | sitems => cases hx
  | srev => cases hx
  | ssort => cases hx
  | tuple_ => cases hx; exact x_call1T c_tuple hg hm boot_tuple_ ha hn (by decide) h2
  | list_ => cases hx; exact x_call1T (c_list hc) hg hm boot_list_ ha hn (by decide) h2
  | dict_ => cases hx; exact x_call1T (c_dict hc) hg hm boot_dict_ ha hn (by decide) h2
  | int_ => cases hx; exact x_call1T c_int hg hm boot_int_ ha hn (by decide) h2
  | str_ => cases hx; exact x_call1T c_str hg hm boot_str_ ha hn (by decide) h2
  | max_ => cases hx; exact x_call1B (c_max hc) hg hm boot_max_ ha hn (by decide) h2
  | min_ => cases hx; exact x_call1B (c_min hc) hg hm boot_min_ ha hn (by decide) h2
/-! xs.pop() -/
def ePop (i : Nat) : EvDX := fun env => match look env i with
  | some (.lst xs) => (match xs[xs.length - 1]? with
    | some x => some (x, env.set i (some (.lst xs.dropLast)))
    | none => none)
  | _ => none
theorem ePop_inv {i : Nat} {env env' : PyI.Env} {d : D} (h : ePop i env = some (d, env')) : ∃ xs, look env i = some (.lst xs) ∧ xs[xs.length - 1]? = some d ∧ env' = env.set i (some (.lst xs.dropLast)) := by
  unfold ePop at h
  split at h
  · rename_i xs hl
    split at h
    · cases h; exact ⟨xs, hl, by assumption, rfl⟩
    · cases h
  · cases h
theorem OwnA.set {cls : List Cl} {env : PyI.Env} {σ : L2.St} {i : Nat} {d d' : D} (he : env[i]? = some (some d)) (hm : isMut d = true) (hm' : isMut d' = true) (b : Addr) : OwnA cls (env.set i (some d')) σ b ↔ OwnA cls env σ b := by
  have hi : i < env.length := (List.getElem?_eq_some_iff.mp he).1
  constructor
  · rintro ⟨j, x, h1, h2, h3, h4⟩
    by_cases z : j = i
    · subst z; exact ⟨j, d, h1, he, hm, h4⟩
    · rw [List.getElem?_set_ne (Ne.symm z)] at h2; exact ⟨j, x, h1, h2, h3, h4⟩
  · rintro ⟨j, x, h1, h2, h3, h4⟩
    by_cases z : j = i
    · subst z; exact ⟨j, d', h1, List.getElem?_set_self hi, hm', h4⟩
    · exact ⟨j, x, h1, by rw [List.getElem?_set_ne (Ne.symm z)]; exact h2, h3, h4⟩
theorem StepE.write {K : PySem.W.Frag} {Γ : Gh} {L : List Addr} {G H : Hp} {env : PyI.Env} {σ : L2.St} {i : Nat} {d d' : D} {a : Addr} {o : HO} (hc : clA cls i = .O) (he : env[i]? = some (some d)) (hm : isMut d = true) (hs : σ[i]? = some (some (.ref a))) (hm' : isMut d' = true) : StepE cls σ env (env.set i (some d')) G H G (upd H a o) where
  hh := fun b u hb e => by
    have z : b ≠ a := fun z => hb (by subst z; exact ⟨i, d, hc, he, hm, hs⟩)
    rw [upd_ne z]; exact e
  hn := fun b hb => by
    by_cases z : b = a
    · rw [z, upd_same]; simp
    · rw [upd_ne z]; exact hb
  gg := Ex.refl G
  fr := fun b h => .inl h
  sh := OwnA.set he hm hm'
  off := fun j hj => by
    have z : j ≠ i := fun z => hj (by rw [z]; exact hc)
    rw [List.getElem?_set_ne (Ne.symm z)]
theorem RepL.last {K : PySem.W.Frag} {G : Hp} {xs : List V} {ds : List D} (h : RepL K G xs ds) {d : D} (e : ds[ds.length - 1]? = some d) : ∃ v, xs[xs.length - 1]? = some v ∧ Rep K G v d := by
  rw [h.length]; exact h.get e
theorem x_pop {x : Str} {i : Nat} {apos p1 : Pos} (hN : X.N[i]? = some x) (hv : Vis X.env.scope x) (h1 : (x == ("__debug__" : Str)) = false) (h2 : (x == ("__classdict__" : Str)) = false) (hc : clA cls i = .O) (hab : abB (.Name x p1) = true) (hline : (apos.endLine == pos.line) = true) :
    PE X (.Call (.Attribute (.Name x p1) "pop" apos) [] [] pos) (tE X.K cls (PV X.K) (ePop i)) := by
  refine PE.imp (pe_bm0 PySem.F.plainAttrs_list PySem.F.slot_list_pop PySem.F.type_list_pop mt_pop (pe_var hN hv h1 h2) (abB_ok hab) hline) fun σ H Q ⟨Γ, L, G, env, d, env', E, hl, k⟩ => ?_
  obtain ⟨xs, hl1, hl2, rfl⟩ := ePop_inv hl
  obtain ⟨v, e1, e2⟩ := E.look hl1
  rw [hc] at e2
  rcases e2 with ⟨m, _⟩ | ⟨a, rfl, _, _, own⟩
  · cases m
  obtain ⟨zs, hH, rr⟩ := id own
  obtain ⟨w, hw, rw'⟩ := rr.last hl2
  refine ⟨_, e1, .inl ⟨rfl, zs, .inl (.inl hH)⟩, a, zs, w, rfl, rfl, hH, hw, ?_⟩
  have he := look_some hl1
  exact k w G _ (E.write hc he rfl e1 rfl ⟨_, upd_same, rr.dropLast⟩) (StepE.write (K := X.K) (Γ := Γ) (L := L) hc he rfl e1 rfl) rw'
end
/-! ### calls of defs that write -/
theorem setAll_len : ∀ (is : List Nat) (ds : List D) (env : PyI.Env), (setAll env is ds).length = env.length
  | [], _, _ => rfl
  | _ :: _, [], _ => rfl
  | i :: is, d :: ds, env => by rw [setAll, setAll_len, List.length_set]
theorem setAll_off : ∀ {is : List Nat} {ds : List D} {env : PyI.Env} {j : Nat}, j ∉ is → (setAll env is ds)[j]? = env[j]?
  | [], _, _, _, _ => rfl
  | _ :: _, [], _, _, _ => rfl
  | i :: is, d :: ds, env, j, h => by
    rw [setAll, setAll_off (fun q => h (List.mem_cons_of_mem _ q)), List.getElem?_set_ne (fun q => h (by rw [q]; exact List.mem_cons_self))]
theorem setAll_on : ∀ {is : List Nat} {ds : List D} {env : PyI.Env} {j i : Nat} {d : D}, is.Nodup → is[j]? = some i → ds[j]? = some d → i < env.length → (setAll env is ds)[i]? = some (some d)
  | [], _, _, _, _, _, _, h, _, _ => by simp at h
  | _ :: _, [], _, _, _, _, _, _, h, _ => by simp at h
  | i' :: is, d' :: ds, env, j, i, d, nd, h1, h2, hi => by
    rw [List.nodup_cons] at nd
    rw [setAll]
    cases j with
    | zero =>
      simp at h1 h2
      subst h1 h2
      rw [setAll_off nd.1, List.getElem?_set_self hi]
    | succ j => exact setAll_on nd.2 (by simpa using h1) (by simpa using h2) (by rw [List.length_set]; exact hi)
section
variable {K : PySem.W.Frag} {Γ : Gh} {L : List Addr} {cls : List Cl} {G H G' H' : Hp} {env : PyI.Env} {σ : L2.St}
/-- slots handed over, with their objects -/
def Handed (cls : List Cl) (env : PyI.Env) (σ : L2.St) : List Nat → List Addr → Prop
  | [], [] => True
  | i :: is, a :: as => (clA cls i = .O ∧ σ[i]? = some (some (.ref a)) ∧ ∃ d, env[i]? = some (some d) ∧ isMut d = true) ∧ Handed cls env σ is as
  | _, _ => False
theorem Handed.at : ∀ {is : List Nat} {as : List Addr}, Handed cls env σ is as → ∀ {j i : Nat}, is[j]? = some i → ∃ a, as[j]? = some a ∧ clA cls i = .O ∧ σ[i]? = some (some (.ref a)) ∧ ∃ d, env[i]? = some (some d) ∧ isMut d = true
  | [], [], _, _, _, h => by simp at h
  | i :: is, a :: as, h, j, i', e => by
    cases j with
    | zero => simp at e; subst e; exact ⟨a, by simp, h.1⟩
    | succ j => simpa using Handed.at h.2 (by simpa using e)
  | [], _ :: _, h, _, _, _ => h.elim
  | _ :: _, [], h, _, _, _ => h.elim
theorem Handed.len : ∀ {is : List Nat} {as : List Addr}, Handed cls env σ is as → is.length = as.length
  | [], [], _ => rfl
  | i :: is, a :: as, h => by simp [Handed.len h.2]
  | [], _ :: _, h => h.elim
  | _ :: _, [], h => h.elim
theorem EnvRel.called {is : List Nat} {as ai an : List Addr} {outs : List D} {G0 H0 : Hp} {env0 : PyI.Env} (E0 : EnvRel K Γ L cls G0 env0 σ H0) (s0 : StepE cls σ env0 env G0 H0 G H) (E : EnvRel K Γ L cls G env σ H) (hd : Handed cls env σ is ai) (nd : is.Nodup) (hl : outs.length = ai.length) (s : StepX as (L ++ Γ.L0) G H G' H') (has : ∀ b ∈ as, b ∈ ai ∨ b ∈ an)
    (hN : ∀ b ∈ an, G b = none ∧ H0 b = none ∧ ∃ d, Own K G H b d)
    (ho : ∀ (j : Nat) a d, ai[j]? = some a → outs[j]? = some d → G' a = none ∧ Own K G' H' a d) : EnvRel K Γ L cls G' (setAll env is outs) σ H' ∧ StepE cls σ env0 (setAll env is outs) G0 H0 G' H' := by
  have hlen := hd.len
  have onA : ∀ {b : Addr}, b ∈ ai → ∃ i d, i ∈ is ∧ clA cls i = .O ∧ env[i]? = some (some d) ∧ isMut d = true ∧ σ[i]? = some (some (.ref b)) := by
    intro b hb
    obtain ⟨j, hj⟩ := List.getElem?_of_mem hb
    have hj' : j < is.length := by rw [hlen]; exact (List.getElem?_eq_some_iff.mp hj).1
    obtain ⟨a, q1, q2, q3, d, q4, q5⟩ := hd.at (List.getElem?_eq_getElem hj')
    rw [hj] at q1; cases q1
    exact ⟨_, d, List.getElem_mem hj', q2, q4, q5, q3⟩
  have own : ∀ {b : Addr}, b ∈ ai → OwnA cls env σ b := fun hb => by
    obtain ⟨i, d, _, q2, q3, q4, q5⟩ := onA hb
    exact ⟨i, d, q2, q3, q4, q5⟩
  have nwN : ∀ {b : Addr}, b ∈ an → ¬ OwnA cls env σ b ∧ Γ.H0 b = none := by
    intro b hb
    obtain ⟨_, n, _⟩ := hN b hb
    refine ⟨fun z => (((s0.sh b).mp z).ne E0).1 n, ?_⟩
    cases e : Γ.H0 b with
    | none => rfl
    | some o => exact absurd n (E0.h0 b (by rw [e]; simp))
  -- an owned slot's object is handed over only by its slot
  have apn : ∀ {j : Nat} {e : D} {b : Addr}, j ∉ is → clA cls j = .O → env[j]? = some (some e) → isMut e = true → σ[j]? = some (some (.ref b)) → b ∉ as := by
    intro j e b hj hc he hm hs hb
    rcases has b hb with hb | hb
    case inr => exact (nwN hb).1 ⟨j, e, hc, he, hm, hs⟩
    obtain ⟨i, d, hi, q2, q3, q4, q5⟩ := onA hb
    exact E.ap i j d e b (fun z => hj (by rw [← z]; exact hi)) q2 hc q3 q4 he hm q5 hs
  have atb : ∀ {M : List Addr} {b u}, b ∉ as → At M H b u → At M H' b u := by
    intro M b u hb h
    rcases h with ⟨l, h⟩ | ⟨l, o', kvs, e, h⟩
    · exact .inl ⟨l, s.hh b u hb h⟩
    · exact .inr ⟨l, o', kvs, e, s.hh b _ hb h⟩
  have get : ∀ {j : Nat} {d1 : D}, (setAll env is outs)[j]? = some (some d1) → isMut d1 = true → ∃ d2, env[j]? = some (some d2) ∧ (isMut d2 = true ∨ j ∉ is) ∧ isMut d2 = true := by
    intro j d1 h1 m1
    by_cases z : j ∈ is
    · obtain ⟨k, hk⟩ := List.getElem?_of_mem z
      obtain ⟨a, q1, q2, q3, d, q4, q5⟩ := hd.at hk
      exact ⟨d, q4, .inl q5, q5⟩
    · rw [setAll_off z] at h1; exact ⟨d1, h1, .inl m1, m1⟩
  have put : ∀ {i : Nat} {d0 : D}, i ∈ is → env[i]? = some (some d0) → ∃ d1 a, (setAll env is outs)[i]? = some (some d1) ∧ σ[i]? = some (some (.ref a)) ∧ a ∈ ai ∧ G' a = none ∧ Own K G' H' a d1 := by
    intro i d0 hi he
    obtain ⟨k, hk⟩ := List.getElem?_of_mem hi
    obtain ⟨a, q1, q2, q3, d, q4, q5⟩ := hd.at hk
    have hk' : k < outs.length := by rw [hl]; exact (List.getElem?_eq_some_iff.mp q1).1
    have ho' := ho k a outs[k] q1 (List.getElem?_eq_getElem hk')
    exact ⟨outs[k], a, setAll_on nd hk (List.getElem?_eq_getElem hk') (List.getElem?_eq_some_iff.mp he).1, q3, List.mem_of_getElem? q1, ho'.1, ho'.2⟩
  refine ⟨{
    fz := s.fz
    g0 := E.g0.trans s.gg
    gf := fun b h => by
      rcases s.fr b h with q | q
      · exact E.gf b q
      · refine .inr ?_
        cases e : Γ.H0 b with
        | none => rfl
        | some o => exact absurd q (E.h0 b (by rw [e]; simp))
    h0 := fun b hb => s.hn b (E.h0 b hb)
    kp := fun b o q hb => by
      refine atb (fun z => ?_) (E.kp b o q hb)
      rcases has b z with z | z
      case inr => rw [(nwN z).2] at q; cases q
      obtain ⟨i, d, _, q2, q3, q4, q5⟩ := onA z
      obtain ⟨v, e1, e2⟩ := E.sl i d q3
      rw [q5] at e1; cases e1
      rw [q2] at e2
      rcases e2 with ⟨m, _⟩ | ⟨a', ea, _, hn, _⟩
      · rw [q4] at m; cases m
      · cases ea
        rcases hn with hn | ⟨p, hp, ep⟩
        · rw [hn] at q; cases q
        · exact hb p hp ep
    len := by rw [setAll_len]; exact E.len
    cl := by rw [setAll_len]; exact E.cl
    sl := fun j e h => by
      by_cases z : j ∈ is
      · obtain ⟨k, hk⟩ := List.getElem?_of_mem z
        obtain ⟨a0, q1, q2, q3, d, q4, q5⟩ := hd.at hk
        obtain ⟨d1, a, w1, w2, w3, w4, w5⟩ := put z q4
        rw [w1] at h; cases h
        refine ⟨_, w2, ?_⟩
        rw [q2]
        obtain ⟨v, e1, e2⟩ := E.sl j d q4
        rw [w2] at e1; cases e1
        rw [q2] at e2
        rcases e2 with ⟨m, _⟩ | ⟨a', ea, _, hn, _⟩
        · rw [q5] at m; cases m
        · cases ea; exact .inr ⟨a, rfl, w4, hn, w5⟩
      · rw [setAll_off z] at h
        obtain ⟨w, h1, h2⟩ := E.sl j e h
        refine ⟨w, h1, ?_⟩
        cases c : clA cls j with
        | F => rw [c] at h2; exact Rep.mono s.gg h2
        | B =>
          rw [c] at h2
          rcases h2 with h2 | ⟨b, rfl, hn, h2⟩
          · exact .inl (h2.mono s.gg)
          · exact .inr ⟨b, rfl, hn, h2.mono s.gg⟩
        | O =>
          rw [c] at h2
          rcases h2 with ⟨m, h2⟩ | ⟨b, rfl, g2, hn2, own2⟩
          · exact .inl ⟨m, h2.mono s.gg⟩
          · have hb := apn z c h own2.mut h1
            refine .inr ⟨b, rfl, ?_, hn2, ?_⟩
            · cases q : G' b with
              | none => rfl
              | some o =>
                rcases s.fr b (by rw [q]; simp) with y | y
                · exact absurd g2 y
                · exact absurd y own2.ne
            · cases e with
              | lst ds => obtain ⟨xs, h, r⟩ := own2; exact ⟨xs, s.hh b _ hb h, r.mono s.gg⟩
              | dic ds => obtain ⟨xs, h, r⟩ := own2; exact ⟨xs, s.hh b _ hb h, r.mono s.gg⟩
              | _ => exact own2.elim
    ap := fun p q d1 e1 b hpq c1 c2 h1 m1 h2 m2 s1 s2 => by
      obtain ⟨d2, x1, _, x2⟩ := get h1 m1
      obtain ⟨e2, y1, _, y2⟩ := get h2 m2
      exact E.ap p q d2 e2 b hpq c1 c2 x1 x2 y1 y2 s1 s2
    io := fun p hp => by
      obtain ⟨c1, s1, d1, h1, m1⟩ := E.io p hp
      refine ⟨c1, s1, ?_⟩
      by_cases z : p.1 ∈ is
      · obtain ⟨d2, a, w1, _, _, _, w5⟩ := put z h1
        exact ⟨d2, w1, w5.mut⟩
      · rw [setAll_off z]; exact ⟨d1, h1, m1⟩
    ib := E.ib
    lks := fun p hp => by
      obtain ⟨h1, o', u', h2⟩ := E.lks p hp
      refine ⟨s.hh _ _ (fun z => ?_) h1, o', u', h2⟩
      have how : ∃ d, Own K G H p.1 d := by
        rcases has _ z with z | z
        · obtain ⟨_, _, d, ow⟩ := (own z).ne E; exact ⟨d, ow⟩
        · exact (hN _ z).2.2
      obtain ⟨d, ow⟩ := how
      rw [h2] at h1
      cases d with
      | lst ds => obtain ⟨xs, h, _⟩ := ow; rw [h] at h1; cases h1
      | dic ds => obtain ⟨xs, h, _⟩ := ow; rw [h] at h1; cases h1
      | _ => exact ow.elim }, {
    hh := fun b o hb e => by
      refine s.hh b o (fun z => ?_) (s0.hh b o hb e)
      rcases has b z with z | z
      · exact hb ((s0.sh b).mp (own z))
      · rw [(hN b z).2.1] at e; cases e
    hn := fun b hb => s.hn b (s0.hn b hb)
    gg := s0.gg.trans s.gg
    fr := fun b hb => by
      rcases s.fr b hb with q | q
      · exact s0.fr b q
      · exact .inr (s0.back q)
    sh := fun b => (show OwnA cls (setAll env is outs) σ b ↔ OwnA cls env σ b from ⟨fun ⟨j, x, h1, h2, h3, h4⟩ => by
      obtain ⟨d2, y1, _, y2⟩ := get h2 h3
      exact ⟨j, d2, h1, y1, y2, h4⟩, fun ⟨j, x, h1, h2, h3, h4⟩ => by
      by_cases z : j ∈ is
      · obtain ⟨d2, a, w1, _, _, _, w5⟩ := put z h2
        exact ⟨j, d2, h1, w1, w5.mut, h4⟩
      · exact ⟨j, x, h1, by rw [setAll_off z]; exact h2, h3, h4⟩⟩).trans (s0.sh b)
    off := fun j hj => by
      have z : j ∉ is := fun z => by
        obtain ⟨k, hk⟩ := List.getElem?_of_mem z
        obtain ⟨a, q1, q2, _⟩ := hd.at hk
        exact hj q2
      rw [setAll_off z]
      exact s0.off j hj }⟩
end
end PyI
end

section
set_option maxRecDepth 100000
set_option maxHeartbeats 4000000
namespace PyI
open PySem PySem.Spec PyProof.Rows L2
def posM : Nat → List Md → List Nat
  | _, [] => []
  | k, .v :: ms => posM (k + 1) ms
  | k, .io _ :: ms => k :: posM (k + 1) ms
  | k, .nw :: ms => k :: posM (k + 1) ms
def newM {α : Type} : List Md → List α → List α
  | .v :: ms, os => newM ms os
  | .io _ :: ms, _ :: os => newM ms os
  | .nw :: ms, o :: os => o :: newM ms os
  | _, _ => []
def modeOk : Cl → Md → Bool
  | .F, .v => true
  | .B, .v => true
  | .O, .io _ => true
  | .O, .nw => true
  | _, _ => false
def modesOk : List Cl → List Md → Bool
  | c :: cs, m :: ms => modeOk c m && modesOk cs ms
  | cs, [] => noO cs
  | [], _ :: _ => false
def eCallX (cf : CF) (f : Nat) (ms : List Md) (xes : EvDXs) : EvDX := fun env => match xes env with
  | some (ds, e1) => (match fillM e1 ms ds with
    | some ds' => (match cf f ds' with
      | some (d, outs) => some (d, setAll e1 (iosM ms) (outsM ms outs))
      | none => none)
    | none => none)
  | none => none
theorem eCallX_inv {cf : CF} {f : Nat} {ms : List Md} {xes : EvDXs} {env env' : PyI.Env} {d : D} (h : eCallX cf f ms xes env = some (d, env')) : ∃ ds e1 ds' outs, xes env = some (ds, e1) ∧ fillM e1 ms ds = some ds' ∧ cf f ds' = some (d, outs) ∧ env' = setAll e1 (iosM ms) (outsM ms outs) := by
  unfold eCallX at h
  split at h
  · split at h
    · split at h
      · cases h; exact ⟨_, _, _, _, by assumption, by assumption, by assumption, rfl⟩
      · cases h
    · cases h
  · cases h
/-- one new object at the most -/
def oneNw (ms : List Md) : Bool := decide ((ms.filter fun m => decide (m = .nw)).length ≤ 1)
section
theorem mem_iosM {i : Nat} : ∀ {ms : List Md}, Md.io i ∈ ms → i ∈ iosM ms
  | .v :: ms, hi => mem_iosM (ms := ms) ((List.mem_cons.mp hi).resolve_left fun e => by cases e)
  | .nw :: ms, hi => mem_iosM (ms := ms) ((List.mem_cons.mp hi).resolve_left fun e => by cases e)
  | .io j :: ms, hi => by
    rcases List.mem_cons.mp hi with e | hi'
    · cases e; exact List.mem_cons_self
    · exact List.mem_cons_of_mem _ (mem_iosM hi')
theorem outs_len {α β : Type} : ∀ {ms : List Md} {as : List α} {bs : List β}, as.length = bs.length → (outsM ms as).length = (outsM ms bs).length
  | [], as, bs, _ => by cases as <;> cases bs <;> rfl
  | .v :: ms, as, bs, h => outs_len (ms := ms) h
  | .io _ :: ms, [], [], _ => rfl
  | .io _ :: ms, a :: as, b :: bs, h => by
    show (outsM ms as).length + 1 = (outsM ms bs).length + 1
    rw [outs_len (ms := ms) (by simpa using h)]
  | .nw :: ms, [], [], _ => rfl
  | .nw :: ms, a :: as, b :: bs, h => outs_len (ms := ms) (by simpa using h)
  | .io _ :: _, [], _ :: _, h => by simp at h
  | .io _ :: _, _ :: _, [], h => by simp at h
  | .nw :: _, [], _ :: _, h => by simp at h
  | .nw :: _, _ :: _, [], h => by simp at h
theorem outs_at {α β : Type} {P : α → β → Prop} : ∀ {ms : List Md} {as : List α} {bs : List β}, as.length = bs.length → (∀ (j : Nat) a d, as[j]? = some a → bs[j]? = some d → P a d) → ∀ (j : Nat) a d, (outsM ms as)[j]? = some a → (outsM ms bs)[j]? = some d → P a d
  | [], as, bs, _, _, j, a, d, h, _ => by cases as <;> cases h
  | .v :: ms, as, bs, hl, hp, j, a, d, h1, h2 => outs_at (ms := ms) hl hp j a d h1 h2
  | .io _ :: ms, [], [], _, _, j, a, d, h, _ => by cases h
  | .io _ :: ms, x :: as, y :: bs, hl, hp, 0, a, d, h1, h2 => by
    have h1' : some x = some a := h1
    have h2' : some y = some d := h2
    cases h1'; cases h2'
    exact hp 0 x y rfl rfl
  | .io _ :: ms, x :: as, y :: bs, hl, hp, j + 1, a, d, h1, h2 => outs_at (ms := ms) (as := as) (bs := bs) (by simpa using hl) (fun j a d q1 q2 => hp (j + 1) a d (by simpa using q1) (by simpa using q2)) j a d h1 h2
  | .nw :: ms, [], [], _, _, j, a, d, h, _ => by cases h
  | .nw :: ms, x :: as, y :: bs, hl, hp, j, a, d, h1, h2 => outs_at (ms := ms) (as := as) (bs := bs) (by simpa using hl) (fun j a d q1 q2 => hp (j + 1) a d (by simpa using q1) (by simpa using q2)) j a d h1 h2
  | .io _ :: _, [], _ :: _, h, _, _, _, _, _, _ => by simp at h
  | .io _ :: _, _ :: _, [], h, _, _, _, _, _, _ => by simp at h
  | .nw :: _, [], _ :: _, h, _, _, _, _, _, _ => by simp at h
  | .nw :: _, _ :: _, [], h, _, _, _, _, _, _ => by simp at h
theorem outs_or {α : Type} : ∀ {ms : List Md} {as : List α} (k : Nat), as.length = (posM k ms).length → ∀ b ∈ as, b ∈ outsM ms as ∨ b ∈ newM ms as
  | [], as, k, h, b, hb => by
    have : as = [] := List.eq_nil_of_length_eq_zero h
    rw [this] at hb; cases hb
  | .v :: ms, as, k, h, b, hb => outs_or (ms := ms) (k + 1) h b hb
  | .io _ :: ms, [], k, h, b, hb => by cases hb
  | .io _ :: ms, a :: as, k, h, b, hb => by
    rcases List.mem_cons.mp hb with rfl | hb
    · exact .inl List.mem_cons_self
    · exact (outs_or (ms := ms) (k + 1) (by simpa [posM] using h) b hb).imp (List.mem_cons_of_mem _) id
  | .nw :: ms, [], k, h, b, hb => by cases hb
  | .nw :: ms, a :: as, k, h, b, hb => by
    rcases List.mem_cons.mp hb with rfl | hb
    · exact .inr List.mem_cons_self
    · exact (outs_or (ms := ms) (k + 1) (by simpa [posM] using h) b hb).imp id (List.mem_cons_of_mem _)
variable {K : PySem.W.Frag} {Γ : Gh} {L : List Addr} {cls : List Cl} {G H G' H' H0 : Hp} {env : PyI.Env} {σ : L2.St}
theorem args_ok (E : EnvRel K Γ L cls G env σ H) : ∀ {ms : List Md} {vs : List V} {ds ds' : List D} (k : Nat), RepXs K σ H0 G H ms vs ds → fillM env ms ds = some ds' → (∀ i, .io i ∈ ms → clA cls i = .O) →
    ∃ as : List Addr, as.length = (posM k ms).length ∧ Handed cls env σ (iosM ms) (outsM ms as) ∧ (∀ b ∈ newM ms as, G b = none ∧ H0 b = none ∧ ∃ d, Own K G H b d) ∧ (newM ms as).length = (ms.filter fun m => decide (m = .nw)).length ∧ ds'.length = ds.length ∧
      ∀ i v d, vs[i]? = some v → ds'[i]? = some d → (ms[i]? = some .v ∧ Rep K G v d) ∨ ∃ a, (ms[i]? = some .nw ∨ ∃ j, ms[i]? = some (.io j)) ∧ (k + i, a) ∈ (posM k ms).zip as ∧ v = .ref a ∧ G a = none ∧ Own K G H a d
  | _, _, _, _, k, .nil, h, _ => by cases h; exact ⟨[], rfl, trivial, (fun b hb => by cases hb), rfl, rfl, fun i v d h => by simp at h⟩
  | _, _, _, _, k, @RepXs.consV _ _ _ _ _ ms v0 d0 vs ds r rr, h, hc => by
    obtain ⟨r', h1, rfl⟩ := map_some (show (fillM env ms ds).map (d0 :: ·) = _ from h)
    obtain ⟨as, g0, g1, gn, gl, g2, g3⟩ := args_ok E (k + 1) rr h1 fun i hi => hc i (List.mem_cons_of_mem _ hi)
    refine ⟨as, g0, g1, gn, gl, by simp [g2], fun i v d e1 e2 => ?_⟩
    cases i with
    | zero => simp at e1 e2; subst e1; subst e2; exact .inl ⟨by simp, r⟩
    | succ i =>
      have := g3 i v d (by simpa using e1) (by simpa using e2)
      have e : k + 1 + i = k + (i + 1) := by omega
      rw [e] at this
      simpa [posM] using this
  | _, _, _, _, k, @RepXs.consIo _ _ _ _ _ ms i0 v0 d0 vs ds hs rr, h, hc => by
    have h' : (match look env i0 with | some d => if isMut d = true then (fillM env ms ds).map (d :: ·) else none | none => none) = _ := h
    split at h'
    · rename_i d hl
      split at h'
      · rename_i hm
        obtain ⟨r', h1, rfl⟩ := map_some h'
        obtain ⟨as, g0, g1, gn, gl, g2, g3⟩ := args_ok E (k + 1) rr h1 fun i hi => hc i (List.mem_cons_of_mem _ hi)
        have hO := hc i0 List.mem_cons_self
        obtain ⟨v1, e1, e2⟩ := E.look hl
        rw [hs] at e1; cases e1
        rw [hO] at e2
        rcases e2 with ⟨m, _⟩ | ⟨a, rfl, g, _, own⟩
        · rw [hm] at m; cases m
        refine ⟨a :: as, by simp [posM, g0], ⟨⟨hO, hs, d, look_some hl, hm⟩, g1⟩, gn, gl, by simp [g2], fun i v d' e1 e2 => ?_⟩
        cases i with
        | zero => simp at e1 e2; subst e1; subst e2; exact .inr ⟨a, .inr ⟨i0, by simp⟩, by simp [posM], rfl, g, own⟩
        | succ i =>
          rcases g3 i v d' (by simpa using e1) (by simpa using e2) with z | ⟨b, z1, z2, z3⟩
          · exact .inl (by simpa using z)
          · refine .inr ⟨b, by simpa using z1, ?_, z3⟩
            have e : k + 1 + i = k + (i + 1) := by omega
            rw [e] at z2
            show (k + (i + 1), b) ∈ (k, a) :: (posM (k + 1) ms).zip as
            exact List.mem_cons_of_mem _ z2
      · cases h'
    · cases h'
  | _, _, _, _, k, @RepXs.consNew _ _ _ _ _ ms v0 d0 vs ds hr rr, h, hc => by
    have h' : (if isMut d0 = true then (fillM env ms ds).map (d0 :: ·) else none) = _ := h
    split at h'
    · rename_i hm
      obtain ⟨r', h1, rfl⟩ := map_some h'
      obtain ⟨as, g0, g1, gn, gl, g2, g3⟩ := args_ok E (k + 1) rr h1 fun i hi => hc i (List.mem_cons_of_mem _ hi)
      obtain ⟨a, rfl, g, n, own⟩ := hr.own hm
      refine ⟨a :: as, by simp [posM, g0], g1, fun b hb => ?_, by show (newM ms as).length + 1 = _; rw [gl]; simp, by simp [g2], fun i v d' e1 e2 => ?_⟩
      · rcases List.mem_cons.mp hb with rfl | hb
        · exact ⟨g, n, d0, own⟩
        · exact gn b hb
      · cases i with
        | zero => simp at e1 e2; subst e1; subst e2; exact .inr ⟨a, .inl (by simp), by simp [posM], rfl, g, own⟩
        | succ i =>
          rcases g3 i v d' (by simpa using e1) (by simpa using e2) with z | ⟨b, z1, z2, z3⟩
          · exact .inl (by simpa using z)
          · refine .inr ⟨b, by simpa using z1, ?_, z3⟩
            have e : k + 1 + i = k + (i + 1) := by omega
            rw [e] at z2
            show (k + (i + 1), b) ∈ (k, a) :: (posM (k + 1) ms).zip as
            exact List.mem_cons_of_mem _ z2
    · cases h'
theorem handed_nd (E : EnvRel K Γ L cls G env σ H) : ∀ {is : List Nat} {as : List Addr}, Handed cls env σ is as → is.Nodup → as.Nodup
  | [], [], _, _ => List.nodup_nil
  | i :: is, a :: as, h, nd => by
    rw [List.nodup_cons] at nd ⊢
    refine ⟨fun hm => ?_, handed_nd E h.2 nd.2⟩
    obtain ⟨j, hj⟩ := List.getElem?_of_mem hm
    have hj' : j < is.length := by rw [h.2.len]; exact (List.getElem?_eq_some_iff.mp hj).1
    obtain ⟨a', q1, q2, q3, d', q4, q5⟩ := h.2.at (List.getElem?_eq_getElem hj')
    rw [hj] at q1; cases q1
    obtain ⟨c1, s1, d, h1, m1⟩ := h.1
    exact E.ap i is[j] d d' a (fun z => nd.1 (by rw [z]; exact List.getElem_mem hj')) c1 q2 h1 m1 q4 q5 s1 q3
  | [], _ :: _, h, _ => h.elim
  | _ :: _, [], h, _ => h.elim
theorem Handed.mem : ∀ {is : List Nat} {as : List Addr}, Handed cls env σ is as → ∀ b ∈ as, OwnA cls env σ b
  | i :: is, a :: as, h, b, hb => by
    rcases List.mem_cons.mp hb with rfl | hb
    · obtain ⟨c1, s1, d, h1, m1⟩ := h.1; exact ⟨i, d, c1, h1, m1, s1⟩
    · exact Handed.mem h.2 b hb
  | [], _ :: _, h, _, _ => h.elim
theorem all_nd : ∀ {ms : List Md} {as : List Addr} (k : Nat), as.length = (posM k ms).length → (outsM ms as).Nodup → (newM ms as).length ≤ 1 → (∀ b ∈ outsM ms as, b ∉ newM ms as) → as.Nodup
  | [], as, k, h, _, _, _ => by
    have : as = [] := List.eq_nil_of_length_eq_zero h
    rw [this]; exact List.nodup_nil
  | .v :: ms, as, k, h, a, b, c => all_nd (ms := ms) (k + 1) h a b c
  | .io _ :: ms, [], k, h, _, _, _ => List.nodup_nil
  | .io _ :: ms, x :: as, k, h, h1, h2, h3 => by
    have h1' : (x :: outsM ms as).Nodup := h1
    rw [List.nodup_cons] at h1'
    have hl : as.length = (posM (k + 1) ms).length := by simpa [posM] using h
    refine List.nodup_cons.mpr ⟨fun z => ?_, all_nd (ms := ms) (k + 1) hl h1'.2 h2 fun b hb => h3 b (List.mem_cons_of_mem _ hb)⟩
    rcases outs_or (k + 1) hl x z with q | q
    · exact h1'.1 q
    · exact h3 x List.mem_cons_self q
  | .nw :: ms, [], k, h, _, _, _ => List.nodup_nil
  | .nw :: ms, x :: as, k, h, h1, h2, h3 => by
    have h2' : (newM ms as).length + 1 ≤ 1 := h2
    have hl : as.length = (posM (k + 1) ms).length := by simpa [posM] using h
    have hn : newM ms as = [] := List.eq_nil_of_length_eq_zero (by omega)
    refine List.nodup_cons.mpr ⟨fun z => ?_, all_nd (ms := ms) (k + 1) hl h1 (by omega) fun b hb q => by rw [hn] at q; cases q⟩
    rcases outs_or (k + 1) hl x z with q | q
    · exact h3 x q List.mem_cons_self
    · rw [hn] at q; cases q
theorem modes_at : ∀ {cs : List Cl} {ms : List Md}, modesOk cs ms = true → ∀ i, match ms[i]? with
    | some Md.v => clA cs i = .F ∨ clA cs i = .B
    | some (Md.io _) => clA cs i = .O
    | some Md.nw => clA cs i = .O
    | none => clA cs i ≠ .O
  | c :: cs, m :: ms, h, 0 => by
    have h' : (modeOk c m && modesOk cs ms) = true := h
    rw [Bool.and_eq_true] at h'
    cases c <;> cases m <;> first | (simp [clA]; done) | (cases h'.1)
  | c :: cs, m :: ms, h, i + 1 => by
    have h' : (modeOk c m && modesOk cs ms) = true := h
    rw [Bool.and_eq_true] at h'
    have := modes_at h'.2 i
    simpa [clA] using this
  | cs, [], h, i => by
    have h' : noO cs = true := by cases cs <;> exact h
    simpa using noO_at h' i
  | [], _ :: _, h, _ => by cases h
theorem modes_len : ∀ {cs : List Cl} {ms : List Md}, modesOk cs ms = true → ms.length ≤ cs.length
  | c :: cs, m :: ms, h => by
    have h' : (modeOk c m && modesOk cs ms) = true := h
    rw [Bool.and_eq_true] at h'
    have := modes_len h'.2
    simp; exact this
  | cs, [], _ => by simp
  | [], _ :: _, h => by cases h
end
section
variable {X : Cx} {cls : List Cl} {e a b c : PySem.Expr} {xa xb xc : EvDX} {xes : EvDXs} {pos p : Pos} {ms : List Md} {x : Str} {cf : CF}
def callOk (cls : List Cl) (fd : FDef) (ms : List Md) : Bool := decide (fd.cls.length = fd.ps.length) && modesOk fd.cls ms && decide (posM 0 ms = fd.io) && (fd.io.isEmpty || fd.cls.all fun c => match c with | .B => false | _ => true) && decide ((iosM ms).Nodup) && oneNw ms && (iosM ms).all fun i => decide (clA cls i = .O)
theorem x_call {f : Nat} {fd : FDef} {es : List PySem.Expr} (F : FnS X cf f fd) (hg : Gl X x) (hx : fd.name = x) (hk : callOk cls fd ms = true) (hlm : ms.length = es.length) (hne : es ≠ []) (hn : es.length ≤ fd.ps.length) (hm : fd.ps.length ≤ es.length + fd.dfl.length)
    (ha : PA X es (tAE X.K cls ms xes)) (hdb : (x == ("__debug__" : Str)) = false) (hs : ∀ y ∈ es, notStar y = true) :
    PE X (.Call (.Name x p) es [] pos) (tE X.K cls (PX X.K fd.fresh) (eCallX cf f ms xes)) := by
  obtain ⟨k, adr, fdt, hr, hmg, hkp, ok, hb⟩ := F.ex
  obtain ⟨dls, dvs, b, vd, rd⟩ := hb es.length hn hm
  subst hx
  unfold callOk at hk
  simp only [Bool.and_eq_true, decide_eq_true_eq, List.all_eq_true, Bool.or_eq_true, List.isEmpty_iff] at hk
  obtain ⟨⟨⟨⟨⟨⟨hcl, hmo⟩, hpos⟩, hB⟩, hnd⟩, h1n⟩, hO⟩ := hk
  have h1n : (ms.filter fun m => decide (m = .nw)).length ≤ 1 := of_decide_eq_true h1n
  cases es with
  | nil => exact absurd rfl hne
  | cons e es =>
    have hs1 : starEach (e :: es) X.env = (false, eval e X.env) :: starEach es X.env := by
      have := hs e List.mem_cons_self
      cases e <;> first | rfl | cases this
    have hpl : (backTo pos (starEach es X.env)).any (·.1) = false := by
      have : ∀ es : List PySem.Expr, (∀ y ∈ es, notStar y = true) → (backTo pos (starEach es X.env)).any (·.1) = false := by
        intro es
        induction es with
        | nil => intro _; rfl
        | cons y ys ih =>
          intro h
          have hy := h y List.mem_cons_self
          have e1 : starEach (y :: ys) X.env = (false, eval y X.env) :: starEach ys X.env := by cases y <;> first | rfl | cases hy
          rw [e1]
          show (false || (backTo pos (starEach ys X.env)).any (·.1)) = false
          rw [ih fun z hz => h z (List.mem_cons_of_mem _ hz)]
          rfl
      exact this es fun y hy => hs y (List.mem_cons_of_mem _ hy)
    refine PE.imp (pe_call ok hr hg hmg hkp b vd pass0 ha hdb hs1 hpl) fun σ H Q ⟨Γ, L, G, env, d, env', E, hv, q⟩ => ?_
    obtain ⟨ds, e1, ds', outs, h1, h2, h3, rfl⟩ := eCallX_inv hv
    refine ⟨Γ, L, G, env, ds, e1, E, h1, fun vs G1 H1 E1 s1 r1 => ?_⟩
    have hOm : ∀ i, Md.io i ∈ ms → clA cls i = .O := fun i hi => hO i (mem_iosM hi)
    obtain ⟨as, g0, g1, gn, gl, g2, g3⟩ := args_ok E1 0 r1 h2 hOm
    have hlen := r1.len
    have hdl : ds'.length = (e :: es).length := by rw [g2, ← hlen.2, hlm]
    have hz : ((posM 0 ms).zip as).map (·.2) = as := by
      rw [List.map_snd_zip]
      rw [g0]; exact Nat.le_refl _
    have hz1 : ((posM 0 ms).zip as).map (·.1) = fd.io := by
      rw [← hpos, List.map_fst_zip]
      rw [g0]; exact Nat.le_refl _
    have hand : as.Nodup := all_nd 0 g0 (handed_nd E1 g1 hnd) (by rw [gl]; exact h1n) fun b hb hb' => by
      have q1 := (gn b hb').2.1
      exact (((s1.sh b).mp (g1.mem b hb)).ne E).1 q1
    refine ⟨L ++ Γ.L0, G1, ds' ++ dflTo fd ds'.length, (posM 0 ms).zip as, d, outs, E1.fz, ?_, by rw [← F.dfl ds' (by rw [hdl]; exact hn) (by rw [hdl]; exact hm)]; exact h3, fun v G' H' s r ho => ?_⟩
    · rw [← hdl] at rd
      refine ⟨?_, ?_, fun i v d' e1 e2 => ?_, hz1, by rw [hz]; exact hand⟩
      · rw [List.length_append, hlen.1, rd.length]; unfold dflTo; rw [List.length_drop]; omega
      · rw [List.length_append]; unfold dflTo; rw [List.length_drop]; omega
      · have hmi := modes_at hmo i
        rcases getElem_app e1 with w1 | ⟨q1, w1⟩
        · have hi : i < ds'.length := by rw [g2, ← hlen.1]; exact (List.getElem?_eq_some_iff.mp w1).1
          have w2 : ds'[i]? = some d' := by rw [List.getElem?_append_left hi] at e2; exact e2
          rcases g3 i v d' w1 w2 with ⟨m1, r⟩ | ⟨a, m1, z1, z2, z3, z4⟩
          · rw [m1] at hmi
            rcases hmi with hc | hc
            · rw [hc]; exact r
            · rw [hc]
              refine ⟨r.toT E1.fz, fun p hp => ?_⟩
              rcases hB with hB | hB
              · rw [← hz1, List.map_eq_nil_iff] at hB
                rw [hB] at hp; cases hp
              · exfalso
                have hic : i < fd.cls.length := by
                  have := modes_len hmo
                  have := (List.getElem?_eq_some_iff.mp m1).1
                  omega
                have := hB fd.cls[i] (List.getElem_mem hic)
                unfold clA at hc
                rw [List.getD_eq_getElem?_getD, List.getElem?_eq_getElem hic] at hc
                simp at hc
                rw [hc] at this
                cases this
          · have hmi' : clA fd.cls i = .O := by
              rcases m1 with m1 | ⟨j, m1⟩
              · rw [m1] at hmi; exact hmi
              · rw [m1] at hmi; exact hmi
            rw [hmi']
            rw [Nat.zero_add] at z1
            exact ⟨a, z1, z2, z3, z4⟩
        · have hms : ms[i]? = none := List.getElem?_eq_none (by rw [hlm, ← hdl, g2, ← hlen.1]; exact q1)
          rw [hms] at hmi
          have w2 : (dflTo fd ds'.length)[i - vs.length]? = some d' := by
            rw [List.getElem?_append_right (by rw [g2, ← hlen.1]; exact q1)] at e2
            rw [hlen.1, ← g2]; exact e2
          obtain ⟨w, h3, h4⟩ := rd.get w2
          rw [w1] at h3
          cases h3
          have rp := Rep.mono (G' := G1) (fun _ _ e => by cases e) h4
          cases hc : clA fd.cls i with
          | F => exact rp
          | B =>
            refine ⟨rp.toT E1.fz, fun p hp => ?_⟩
            rcases hB with hB | hB
            · rw [← hz1, List.map_eq_nil_iff] at hB
              rw [hB] at hp; cases hp
            · exfalso
              have hic : i < fd.cls.length := by
                by_cases z : i < fd.cls.length
                · exact z
                · unfold clA at hc
                  rw [List.getD_eq_getElem?_getD, List.getElem?_eq_none (by omega)] at hc
                  cases hc
              have := hB fd.cls[i] (List.getElem_mem hic)
              unfold clA at hc
              rw [List.getD_eq_getElem?_getD, List.getElem?_eq_getElem hic] at hc
              simp at hc
              rw [hc] at this
              cases this
          | O => exact absurd hc hmi
    · rw [hz] at s
      have hol : as.length = outs.length := by rw [← ho.1, List.length_zip, g0, Nat.min_self]
      have hP : ∀ (j : Nat) a d', as[j]? = some a → outs[j]? = some d' → G' a = none ∧ Own X.K G' H' a d' := fun j a d' w1 w2 => by
        have hj : j < (posM 0 ms).length := by rw [← g0]; exact (List.getElem?_eq_some_iff.mp w1).1
        exact ho.2 j ((posM 0 ms)[j], a) d' (by rw [List.getElem?_zip_eq_some]; exact ⟨List.getElem?_eq_getElem hj, w1⟩) w2
      obtain ⟨E2, s2⟩ := EnvRel.called E s1 E1 g1 hnd (outs_len hol.symm) s (outs_or 0 g0) gn (outs_at hol hP)
      exact q v G' H' E2 s2 (r.backE s1)
end
/-! ### comprehensions -/
def eCompX (xelt : EvDX) (tg : Tg) (src : PyI.Env → Option (List D)) : EvDX := fun env => match src env with
  | some xs => (if xs.length ≤ BIG then match cmpX xelt tg env xs with
    | some (ys, e1) => some (.lst ys, e1)
    | none => none
    else none)
  | none => none
theorem eCompX_inv {xelt : EvDX} {tg : Tg} {src : PyI.Env → Option (List D)} {env env' : PyI.Env} {d : D} (h : eCompX xelt tg src env = some (d, env')) : ∃ xs ys, src env = some xs ∧ xs.length ≤ BIG ∧ cmpX xelt tg env xs = some (ys, env') ∧ d = .lst ys := by
  unfold eCompX at h
  split at h
  · rename_i xs hx
    by_cases hb : xs.length ≤ BIG
    · rw [if_pos hb] at h
      split at h
      · rename_i ys e1 hy
        cases h
        exact ⟨xs, ys, hx, hb, hy, rfl⟩
      · cases h
    · rw [if_neg hb] at h; cases h
  · cases h
theorem restT_len (env : PyI.Env) : ∀ (is : List Nat) (e2 : PyI.Env), (restT env e2 is).length = e2.length
  | [], _ => rfl
  | i :: is, e2 => by rw [restT, restT_len env is, List.length_set]
theorem restT_off (env : PyI.Env) : ∀ {is : List Nat} {e2 : PyI.Env} {j : Nat}, j ∉ is → (restT env e2 is)[j]? = e2[j]?
  | [], _, _, _ => rfl
  | i :: is, e2, j, h => by
    rw [restT, restT_off env fun q => h (List.mem_cons_of_mem _ q), List.getElem?_set_ne (fun q => h (by rw [q]; exact List.mem_cons_self))]
theorem restT_on (env : PyI.Env) : ∀ {is : List Nat} {e2 : PyI.Env} {j : Nat}, j ∈ is → e2.length = env.length → (restT env e2 is)[j]? = env[j]?
  | i :: is, e2, j, h, hl => by
    rw [restT]
    by_cases q : j ∈ is
    · exact restT_on env q (by rw [List.length_set]; exact hl)
    · have e : j = i := (List.mem_cons.mp h).resolve_right q
      subst e
      rw [restT_off env q]
      by_cases hj : j < env.length
      · rw [List.getElem?_set_self (by omega), List.getD_eq_getElem?_getD, List.getElem?_eq_getElem hj]; rfl
      · rw [List.getElem?_eq_none (by rw [List.length_set]; omega), List.getElem?_eq_none (by omega)]
theorem clsT_off {cls : List Cl} {tg : Tg} {j : Nat} (h : j ∉ ixT tg) : clA (clsT cls tg) j = clA cls j := by
  have key : ∀ (is : List Nat) (cls : List Cl), j ∉ is → clA (is.foldl (fun c i => c.set i .F) cls) j = clA cls j := by
    intro is
    induction is with
    | nil => intro _ _; rfl
    | cons i is ih =>
      intro cls h
      rw [List.foldl_cons, ih _ fun q => h (List.mem_cons_of_mem _ q)]
      unfold clA
      rw [List.getD_eq_getElem?_getD, List.getD_eq_getElem?_getD, List.getElem?_set_ne (fun q => h (by rw [q]; exact List.mem_cons_self))]
  cases tg with
  | name i => exact key [i] cls h
  | tup is => exact key is cls h
theorem clsT_on {cls : List Cl} {tg : Tg} {j : Nat} (hf : tgF cls (ixT tg) = true) (h : j ∈ ixT tg) : clA (clsT cls tg) j = .F := by
  have key : ∀ (is : List Nat) (cls : List Cl), (∀ i ∈ is, i < cls.length) → j ∈ is → clA (is.foldl (fun c i => c.set i .F) cls) j = .F := by
    intro is
    induction is with
    | nil => intro _ _ h; cases h
    | cons i is ih =>
      intro cls hl h
      rw [List.foldl_cons]
      by_cases q : j ∈ is
      · exact ih _ (fun k hk => by rw [List.length_set]; exact hl k (List.mem_cons_of_mem _ hk)) q
      · have e : j = i := (List.mem_cons.mp h).resolve_right q
        subst e
        have off : ∀ (is : List Nat) (cls : List Cl), j ∉ is → clA (is.foldl (fun c i => c.set i .F) cls) j = clA cls j := by
          intro is
          induction is with
          | nil => intro _ _; rfl
          | cons i is ih =>
            intro cls h
            rw [List.foldl_cons, ih _ fun q => h (List.mem_cons_of_mem _ q)]
            unfold clA
            rw [List.getD_eq_getElem?_getD, List.getD_eq_getElem?_getD, List.getElem?_set_ne (fun q => h (by rw [q]; exact List.mem_cons_self))]
        rw [off is _ q, clA_set (hl j List.mem_cons_self), if_pos rfl]
  have hb : ∀ i ∈ ixT tg, i < cls.length := fun i hi => by
    unfold tgF at hf
    have := List.all_eq_true.mp hf i hi
    simp at this
    exact this.2
  cases tg with
  | name i => exact key [i] cls hb h
  | tup is => exact key is cls hb h
section
variable {K : PySem.W.Frag} {Γ : Gh} {L M : List Addr} {cls : List Cl} {G H G' H' G1 H1 G4 H4 : Hp} {env e0 e1 e2 : PyI.Env} {σ σ' : L2.St} {v : V} {d : D} {tg : Tg}
theorem tgF_ne {i : Nat} (hf : tgF cls (ixT tg) = true) (h : i ∈ ixT tg) : clA cls i ≠ .O ∧ i < cls.length := by
  unfold tgF at hf
  have := List.all_eq_true.mp hf i h
  simpa using this
/-- the slots of a comprehension's target are as they were -/
theorem EnvRel.restore (hf : tgF cls (ixT tg) = true) (E0 : EnvRel K Γ L cls G env σ H) (E2 : EnvRel K Γ L (clsT cls tg) G4 e2 σ' H4) (eg : Ex G G4) (ho : ∀ j, j ∉ ixT tg → σ'[j]? = σ[j]?) (hl : σ'.length = σ.length) : EnvRel K Γ L cls G4 (restT env e2 (ixT tg)) σ H4 := by
  have hl2 : e2.length = env.length := by rw [E2.len, E0.len, hl]
  have oO : ∀ {j : Nat}, clA cls j = .O → j ∉ ixT tg := fun h q => (tgF_ne hf q).1 h
  exact {
    fz := E2.fz
    g0 := E2.g0
    gf := E2.gf
    h0 := E2.h0
    kp := E2.kp
    len := by rw [restT_len, E2.len, hl]
    cl := by rw [restT_len, hl2]; exact E0.cl
    sl := fun j e h => by
      by_cases z : j ∈ ixT tg
      · rw [restT_on env z hl2] at h
        obtain ⟨w, h1, h2⟩ := E0.sl j e h
        refine ⟨w, h1, ?_⟩
        have := (tgF_ne hf z).1
        cases c : clA cls j with
        | F => rw [c] at h2; exact Rep.mono eg h2
        | B =>
          rw [c] at h2
          rcases h2 with h2 | ⟨b, rfl, hn, h2⟩
          · exact .inl (h2.mono eg)
          · exact .inr ⟨b, rfl, hn, h2.mono eg⟩
        | O => exact absurd c this
      · rw [restT_off env z] at h
        obtain ⟨w, h1, h2⟩ := E2.sl j e h
        rw [ho j z] at h1
        rw [clsT_off z] at h2
        exact ⟨w, h1, h2⟩
    ap := fun p q d1 d2 b hpq c1 c2 h1 m1 h2 m2 s1 s2 => by
      rw [restT_off env (oO c1)] at h1
      rw [restT_off env (oO c2)] at h2
      exact E2.ap p q d1 d2 b hpq (by rw [clsT_off (oO c1)]; exact c1) (by rw [clsT_off (oO c2)]; exact c2) h1 m1 h2 m2 (by rw [ho _ (oO c1)]; exact s1) (by rw [ho _ (oO c2)]; exact s2)
    io := fun p hp => by
      obtain ⟨c1, s1, d1, h1, m1⟩ := E0.io p hp
      obtain ⟨c2, s2, d2, h2, m2⟩ := E2.io p hp
      exact ⟨c1, s1, d2, by rw [restT_off env (oO c1)]; exact h2, m2⟩
    ib := E2.ib
    lks := E2.lks }
/-- a turn of a comprehension, seen from outside -/
theorem StepE.turn (hf : tgF cls (ixT tg) = true) (hl : e2.length = env.length) (hb : ∀ j, j ∉ ixT tg → e1[j]? = env[j]?) (ho : ∀ j, j ∉ ixT tg → σ'[j]? = σ[j]?) (s : StepE (clsT cls tg) σ' e1 e2 G H G4 H4) : StepE cls σ env (restT env e2 (ixT tg)) G H G4 H4 := by
  have oO : ∀ {j : Nat}, clA cls j = .O → j ∉ ixT tg := fun h q => (tgF_ne hf q).1 h
  have key : ∀ (e : PyI.Env) (ee : PyI.Env), (∀ j, j ∉ ixT tg → e[j]? = ee[j]?) → ∀ b, OwnA (clsT cls tg) e σ' b ↔ OwnA cls ee σ b := by
    intro e ee he b
    constructor
    · rintro ⟨j, x, h1, h2, h3, h4⟩
      have z : j ∉ ixT tg := fun z => by rw [clsT_on hf z] at h1; cases h1
      rw [clsT_off z] at h1
      exact ⟨j, x, h1, by rw [← he j z]; exact h2, h3, by rw [← ho j z]; exact h4⟩
    · rintro ⟨j, x, h1, h2, h3, h4⟩
      have z := oO h1
      exact ⟨j, x, by rw [clsT_off z]; exact h1, by rw [he j z]; exact h2, h3, by rw [ho j z]; exact h4⟩
  exact {
    hh := fun b o h e => s.hh b o (fun z => h ((key e1 env hb b).mp z)) e
    hn := s.hn
    gg := s.gg
    fr := s.fr
    sh := fun b => ((key e2 (restT env e2 (ixT tg)) (fun j hj => (restT_off env hj).symm) b).symm.trans (s.sh b)).trans (key e1 env hb b)
    off := fun i hi => by
      by_cases z : i ∈ ixT tg
      · exact restT_on env z hl
      · rw [restT_off env z]
        have := s.off i (by rw [clsT_off z]; exact hi)
        rw [this, hb i z] }
theorem bindT_off {x : D} (h : bindT tg x env = some e1) : ∀ j, j ∉ ixT tg → e1[j]? = env[j]? := by
  intro j hj
  cases tg with
  | name i => cases h; exact List.getElem?_set_ne (fun q => hj (by rw [q]; exact List.mem_cons_self))
  | tup is =>
    cases x with
    | tup ds =>
      obtain ⟨_, e⟩ := ifs (show (if is.length = ds.length then some (setAll env is ds) else none) = some e1 from h)
      subst e
      exact setAll_off hj
    | _ => cases h
theorem StepE.updD {D : Addr} {o : HO} (s : StepE cls σ env e1 G1 H1 G4 H4) (h1 : H1 D = none) : StepE cls σ env e1 G1 H1 G4 (upd H4 D o) :=
  { s with
    hh := fun b u hb e => by
      have z : b ≠ D := fun z => by rw [z, h1] at e; cases e
      rw [upd_ne z]; exact s.hh b u hb e
    hn := fun b hb => by
      by_cases z : b = D
      · rw [z, upd_same]; simp
      · rw [upd_ne z]; exact s.hn b hb }
theorem EnvRel.updD {D : Addr} {o : HO} {o' : HO} (E0 : EnvRel K Γ L cls G1 e0 σ H1) (h1 : H1 D = none) (s : StepE cls σ e0 env G1 H1 G H) (g : G D = none) (E : EnvRel K Γ L cls G env σ H) (hD : H D = some o') (hu : ∀ p ∈ Γ.lk, p.1 ≠ D) : EnvRel K Γ L cls G env σ (upd H D o) := by
  have hn : D ∉ L ++ Γ.L0 := E0.fz.nl h1
  have h0 : Γ.H0 D = none := by
    cases q : Γ.H0 D with
    | none => rfl
    | some o => exact absurd h1 (E0.h0 D (by rw [q]; simp))
  have atb : ∀ {M : List Addr} {b u}, b ≠ D → At M H b u → At M (upd H D o) b u := by
    intro M b u hb h
    rcases h with ⟨l, h⟩ | ⟨l, o', kvs, e, h⟩
    · exact .inl ⟨l, by rw [upd_ne hb]; exact h⟩
    · exact .inr ⟨l, o', kvs, e, by rw [upd_ne hb]; exact h⟩
  have hno : ¬ OwnA cls env σ D := fun z => (((s.sh D).mp z).ne E0).1 h1
  exact {
    fz := ⟨fun b u q => atb (fun z => by rw [z, g] at q; cases q) (E.fz.sub b u q), fun b hb => by
      obtain ⟨o2, kvs, h⟩ := E.fz.lk b hb
      have z : b ≠ D := fun z => hn (by rw [← z]; exact hb)
      exact ⟨o2, kvs, by rw [upd_ne z]; exact h⟩⟩
    g0 := E.g0
    gf := E.gf
    h0 := fun b hb => by
      by_cases z : b = D
      · rw [z, upd_same]; simp
      · rw [upd_ne z]; exact E.h0 b hb
    kp := fun b u q hb => atb (fun z => by rw [z, h0] at q; cases q) (E.kp b u q hb)
    len := E.len
    cl := E.cl
    sl := fun j e h => by
      obtain ⟨w, q1, q2⟩ := E.sl j e h
      refine ⟨w, q1, ?_⟩
      cases c : clA cls j with
      | F => rw [c] at q2; exact q2
      | B => rw [c] at q2; exact q2
      | O =>
        rw [c] at q2
        rcases q2 with ⟨m, q2⟩ | ⟨b, rfl, g2, hn2, own2⟩
        · exact .inl ⟨m, q2⟩
        · have hb : b ≠ D := fun z => by subst z; exact hno ⟨j, e, c, h, own2.mut, q1⟩
          exact .inr ⟨b, rfl, g2, hn2, own2.upd hb⟩
    ap := E.ap
    io := E.io
    ib := E.ib
    lks := fun p hp => by rw [upd_ne (hu p hp)]; exact E.lks p hp }
theorem xc_use {J : It} {ds ys : List D} {pr : Bool} {xelt : EvDX} {eF : PyI.Env} {Q : VK} (E0 : EnvRel K Γ L cls G1 env σ H1) (w : WalkD K pr (Stab false Γ L G1 H1) G1 J ds) (hpr : pr = true → isTupTg tg = true) (hf : tgF cls (ixT tg) = true)
    (hc : cmpX xelt tg env ds = some (ys, eF)) (hB : ds.length ≤ BIG) (k : ∀ v G' H', EnvRel K Γ L cls G' eF σ H' → StepE cls σ env eF G1 H1 G' H' → ResF K G' H1 H' v (.lst ys) → Q v H') (D : Addr) (hD : H1 D = none) :
    ∃ W : Nat → Nat → Hp → Prop, (∃ m, W 0 m (upd H1 D (.lst []))) ∧ ∀ i m H, W i m H →
      (J.stop i H ∧ Q (.ref D) H) ∨ (J.go i H ∧ ∃ Nx : Hp → Prop, (∀ H', Nx H' → ∃ m', m' < m ∧ W (i + 1) m' H') ∧ ∀ x H', J.yld i H x H' → gOf K tg x (wipe σ (ixT tg)) H' fun σ2 H2 => wipe σ2 (ixT tg) = wipe σ (ixT tg) ∧ tTs K (clsT cls tg) (fun _ => some true) σ2 H2 fun b H3 =>
        if b = true then tE K (clsT cls tg) (PV K) xelt σ2 H3 fun y H4 => ∃ acc, H4 D = some (.lst acc) ∧ acc.length < sizeLine ∧ Nx (upd H4 D (.lst (acc ++ [y]))) else Nx H3) := by
  obtain ⟨Y, wk, wy⟩ := w
  have hlkD : ∀ p ∈ Γ.lk, p.1 ≠ D := fun p hp z => by
    have := (E0.lks p hp).1
    rw [z, hD] at this; cases this
  have own0 : ¬ OwnA cls env σ D := fun z => (z.ne E0).1 hD
  refine lc_it wk (Qd := fun H => Q (.ref D) H) (fun i H => ∃ G ek acc done rest, EnvRel K Γ L cls G ek σ H ∧ StepE cls σ env ek G1 H1 G H ∧ H D = some (.lst acc) ∧ G D = none ∧ RepL K G acc done ∧ acc.length ≤ i ∧ ys = done ++ rest ∧ cmpX xelt tg ek (ds.drop i) = some (rest, eF)) ?_ ?_ ?_ ?_
  · have s0 : Step (L ++ Γ.L0) G1 H1 G1 (upd H1 D (.lst [])) := Step.new E0.fz hD
    exact ⟨G1, env, [], [], ys, E0.step s0, StepE.of s0, upd_same, E0.fz.ne hD, .nil, Nat.le_refl _, rfl, hc⟩
  · rintro i H _ ⟨G, ek, acc, done, rest, E, s, _⟩
    exact ⟨G, E.stab' s.gg⟩
  · rintro i x H H' hi ⟨G, ek, acc, done, rest, E, s, hacc, hg, rr, hl, hy, hr⟩ y
    obtain ⟨d, hd, yd⟩ := wy i G H x H' hi (E.stab' s.gg) y
    have hdrop : ds.drop i = d :: ds.drop (i + 1) := by
      rw [List.drop_eq_getElem_cons hi]
      rw [List.getElem?_eq_getElem hi] at hd
      cases hd; rfl
    rw [hdrop, cmpX] at hr
    split at hr
    · rename_i e1 hb
      split at hr
      · rename_i z e2 he
        split at hr
        · rename_i zs e3 hzs
          cases hr
          refine tgt_ok hpr hf E yd s.gg hb (wipe_length _ _) (fun j hj => wipe_off hj) fun σ' s2 E2 hl2 ho2 => ⟨wipe_eq hl2 ho2, Γ, L, G, e1, true, E2, rfl, fun G3 H3 s3 => ?_⟩
          show (if true = true then _ else _)
          rw [if_pos rfl]
          refine ⟨Γ, L, G3, e1, z, e2, E2.step s3, he, fun v G4 H4 E4 s4 r => ?_⟩
          have hle : e2.length = ek.length := by rw [E4.len, E.len, hl2]
          have s23 := s2.trans s3
          have s4' : StepE cls σ ek (restT ek e2 (ixT tg)) G H G4 H4 := by
            have a1 : StepE (clsT cls tg) σ' e1 e1 G H G3 H3 := StepE.of s23
            exact StepE.turn hf hle (bindT_off hb) ho2 (a1.trans s4)
          have sT := s.trans s4'
          have hD4 : H4 D = some (.lst acc) := s4'.hh D _ (fun z => own0 ((s.sh D).mp z)) hacc
          have gD4 : G4 D = none := by
            cases q : G4 D with
            | none => rfl
            | some o =>
              rcases s4'.fr D (by rw [q]; simp) with z | z
              · exact absurd hg z
              · rw [hacc] at z; cases z
          have E5 := EnvRel.restore hf E E4 s4'.gg ho2 hl2
          exact ⟨acc, hD4, Nat.lt_of_lt_of_le (Nat.lt_of_le_of_lt hl hi) (Nat.le_trans hB BIG_line), G4, _, acc ++ [v], done ++ [z], zs, E0.updD hD sT gD4 E5 hD4 hlkD, sT.updD hD, upd_same, gD4, (rr.mono s4'.gg).append (.cons r .nil), by simp; omega, by rw [hy]; simp, hzs⟩
        · cases hr
      · cases hr
    · cases hr
  · rintro H ⟨G, ek, acc, done, rest, E, s, hacc, hg, rr, hl, hy, hr⟩
    rw [List.drop_length] at hr
    cases hr
    rw [List.append_nil] at hy
    subst hy
    exact k (.ref D) G H E s (ResF.of (d := .lst _) ⟨acc, hacc, rr⟩ hg hD)
end
section
variable {X : Cx} {cls : List Cl} {elt tg' iter : PySem.Expr} {scope : Scope} {own : List (Str × Nat)} {pos : Pos} {tg : Tg} {xelt : EvDX} {pr : Bool}
structure XcParts (X : Cx) (cls : List Cl) (elt tg' : PySem.Expr) (scope : Scope) (tg : Tg) (own : List (Str × Nat)) (xelt : EvDX) : Prop where
  calm : X.calm = true
  nd : X.N.Nodup
  ok : BlkOk X.N X.env.scope scope own
  own : own.map (·.2) = ixT tg
  g : ∀ (s : Shared) (H : Hp) (C : Addr) (cl : List (Str × Addr)) (fp : List Addr), PG (X.blk s H scope (compEnvC scope cl C X.env) fp) tg' (gOf X.K tg)
  t : ∀ (s : Shared) (H : Hp) (C : Addr) (cl : List (Str × Addr)) (fp : List Addr), PTs (X.blk s H scope (compEnvC scope cl C X.env) fp) [] (tTs X.K (clsT cls tg) fun _ => some true)
  e : ∀ (s : Shared) (H : Hp) (C : Addr) (cl : List (Str × Addr)) (fp : List Addr), PE (X.blk s H scope (compEnvC scope cl C X.env) fp) elt (tE X.K (clsT cls tg) (PV X.K) xelt)
  f : tgF cls (ixT tg) = true
theorem x_comp {src : PyI.Env → Option (List D)} (P : XcParts X cls elt tg' scope tg own xelt) (hpr : pr = true → isTupTg tg = true) (hi : PI X tg' iter (tIt X.K pr false cls src)) (hs : ∀ x, foldedSetIterable iter X.env x = pure x) :
    PE X (.ListComp elt [⟨tg', iter, [], 0⟩] scope pos) (tE X.K cls (PX X.K true) (eCompX xelt tg src)) := by
  refine PE.imp (pe_lc P.calm P.nd hi P.ok P.g P.t P.e hs) fun σ H Q ⟨Γ, L, G, env, d, env', E, hv, k⟩ => ?_
  obtain ⟨xs, ys, h1, h2, h3, rfl⟩ := eCompX_inv hv
  refine ⟨Γ, L, G, env, xs, E, h1, fun J G1 H1 s1 w D hD => ?_⟩
  rw [P.own]
  have E1 := E.step s1
  exact xc_use E1 w hpr P.f h3 h2 (fun v G' H' E' s r => k v G' H' E' ((StepE.of s1).trans s) (ResF.backE (StepE.of s1 : StepE cls σ env env G H G1 H1) r)) D hD
end
end PyI
end

section
set_option maxRecDepth 100000
set_option maxHeartbeats 4000000
namespace PyI
open PySem PySem.Spec PyProof.Rows L2
section
variable {X : Cx} {cls c' : List Cl} {io : List Nat} {fr : Bool} {cn lc : Option (List Cl)} {e a b : PySem.Expr} {xa : EvDX} {pos py : Pos} {i : Nat}
def exAsgX (i : Nat) (xa : EvDX) : PyI.Env → Option Fl := fun env => match xa env with
  | some (d, e1) => some (.nxt (e1.set i (some d)))
  | none => none
theorem exAsgX_inv {env : PyI.Env} {fl : Fl} (h : exAsgX i xa env = some fl) : ∃ d e1, xa env = some (d, e1) ∧ fl = .nxt (e1.set i (some d)) := by
  unfold exAsgX at h
  split at h
  · cases h; exact ⟨_, _, by assumption, rfl⟩
  · cases h
/-- what ps_set asks of a value with effects -/
theorem t_asgX (hi : i < cls.length) (hn : io.contains i = false) (D : Ends) (σ : L2.St) (H : Hp) (h : tS X.K io fr cls (some (cls.set i .F)) lc (exAsgX i xa) D σ H) : tAsg (tE X.K cls (PV X.K) xa) (gName i) D σ H := by
  obtain ⟨Γ, L, G, env, fl, E, hio, hx, k⟩ := h
  obtain ⟨d, e1, hd, rfl⟩ := exAsgX_inv hx
  exact ⟨Γ, L, G, env, d, e1, E, hd, fun v G' H' E' s r => k _ rfl G' _ H' (E'.setF r hi (io_ne hio hn)) s.gg⟩
theorem EnvRel.setOE {K : PySem.W.Frag} {Γ : Gh} {L : List Addr} {cls : List Cl} {G H : Hp} {env : PyI.Env} {σ : L2.St} {v : V} {d : D} {i : Nat} (E : EnvRel K Γ L cls G env σ H) (rm : isMut d = true → ∃ a, v = .ref a ∧ G a = none ∧ Γ.H0 a = none ∧ Own K G H a d ∧ ¬ OwnA cls env σ a) (ri : isMut d = false → Rep K G v d) (hi : i < cls.length) (hn : ∀ p ∈ Γ.io, p.1 ≠ i) :
    EnvRel K Γ L (cls.set i .O) G (env.set i (some d)) (σ.set i (some v)) H where
  fz := E.fz
  g0 := E.g0
  gf := E.gf
  h0 := E.h0
  kp := E.kp
  len := by simp [E.len]
  cl := by simp [E.cl]
  sl := fun j e h => by
    have hl := E.len
    have hc := E.cl
    rw [clA_set hi]
    by_cases q : j = i
    · subst q
      rw [List.getElem?_set_self (by omega)] at h
      cases h
      rw [if_pos rfl]
      refine ⟨v, List.getElem?_set_self (by omega), ?_⟩
      cases m : isMut d with
      | false => exact .inl ⟨m, ri m⟩
      | true =>
        obtain ⟨a, e1, g, n, o, _⟩ := rm m
        exact .inr ⟨a, e1, g, .inl n, o⟩
    · rw [List.getElem?_set_ne (Ne.symm q)] at h
      rw [if_neg q, List.getElem?_set_ne (Ne.symm q)]
      exact E.sl j e h
  ap := fun p q d1 d2 b hpq c1 c2 h1 m1 h2 m2 s1 s2 => by
    have hl := E.len
    have hc := E.cl
    have self : ∀ {p : Nat} {d' : D}, p = i → (env.set i (some d))[p]? = some (some d') → isMut d' = true → (σ.set i (some v))[p]? = some (some (.ref b)) → ¬ OwnA cls env σ b := by
      intro p d' hp h1 m1 s1
      subst hp
      rw [List.getElem?_set_self (by omega)] at h1 s1
      cases h1; cases s1
      obtain ⟨a, ea, _, _, _, n⟩ := rm m1
      cases ea; exact n
    rw [clA_set hi] at c1 c2
    by_cases hp : p = i
    · by_cases hq : q = i
      · exact hpq (hp.trans hq.symm)
      · rw [if_neg hq] at c2
        rw [List.getElem?_set_ne (Ne.symm hq)] at h2 s2
        exact self hp h1 m1 s1 ⟨q, d2, c2, h2, m2, s2⟩
    · rw [if_neg hp] at c1
      rw [List.getElem?_set_ne (Ne.symm hp)] at h1 s1
      by_cases hq : q = i
      · exact self hq h2 m2 s2 ⟨p, d1, c1, h1, m1, s1⟩
      · rw [if_neg hq] at c2
        rw [List.getElem?_set_ne (Ne.symm hq)] at h2 s2
        exact E.ap p q d1 d2 b hpq c1 c2 h1 m1 h2 m2 s1 s2
  io := fun p hp => by
    have := hn p hp
    rw [clA_set hi, if_neg this, List.getElem?_set_ne (Ne.symm this), List.getElem?_set_ne (Ne.symm this)]
    exact E.io p hp
  ib := E.ib
  lks := E.lks
theorem t_asgOX (hi : i < cls.length) (hn : io.contains i = false) (D : Ends) (σ : L2.St) (H : Hp) (h : tS X.K io fr cls (some (cls.set i .O)) lc (exAsgX i xa) D σ H) : tAsg (tE X.K cls (PX X.K true) xa) (gName i) D σ H := by
  obtain ⟨Γ, L, G, env, fl, E, hio, hx, k⟩ := h
  obtain ⟨d, e1, hd, rfl⟩ := exAsgX_inv hx
  refine ⟨Γ, L, G, env, d, e1, E, hd, fun v G' H' E' s r => k _ rfl G' _ H' (E'.setOE (fun m => ?_) (fun m => ?_) hi (io_ne hio hn)) s.gg⟩
  · have r' : ResF X.K G' H H' v d := r
    obtain ⟨a, e2, g, n, o⟩ := r'.own m
    exact ⟨a, e2, g, h0_none E n, o, fun z => (((s.sh a).mp z).ne E).1 n⟩
  · have r' : ResF X.K G' H H' v d := r
    exact r'.im m
def exAsgTX (tg : Tg) (xa : EvDX) : PyI.Env → Option Fl := fun env => match xa env with
  | some (d, e1) => (match bindT tg d e1 with
    | some env' => some (.nxt env')
    | none => none)
  | none => none
theorem xx_asgT {tg : Tg} (hf : tgF cls (ixT tg) = true) (he : PE X e (tE X.K cls (PV X.K) xa)) (hg : PG X a (gOf X.K tg)) (hs : swapsWithSole [a] e pos.line X.env = pure false) (hw : swappedStores [a] e X.env = pure none) (h1 : (assignEach [a] X.env).map (·.2) = [assign a X.env]) :
    PS X (.Assign [a] e pos) (tS X.K io fr cls (some (clsT cls tg)) lc (exAsgTX tg xa)) :=
  PS.imp' (ps_asg he hg hs hw h1) fun D σ H ⟨Γ, L, G, env, fl, E, hio, hx, k⟩ => by
    unfold exAsgTX at hx
    split at hx
    · rename_i d e1 hd
      split at hx
      · rename_i env' hb
        cases hx
        refine ⟨Γ, L, G, env, d, e1, E, hd, fun v G' H' E' s r => ?_⟩
        exact tgt_ok (pr := false) (G1 := G') (fun q => by cases q) hf E' (.inl ⟨rfl, r⟩) (Ex.refl G') hb rfl (fun _ _ => rfl) fun σ' s2 E2 _ _ => k _ rfl G' σ' H' E2 s.gg
      · cases hx
    · cases hx
def exRetX (xa : EvDX) : PyI.Env → Option Fl := fun env => match xa env with
  | some (d, e1) => some (.ret d e1)
  | none => none
theorem x_ret' (he : PE X e (tE X.K cls (PX X.K fr) xa)) : PS X (.Return (some e) pos) (tS X.K io fr cls cn lc (exRetX xa)) :=
  PS.imp' (ps_ret he) fun D σ H ⟨Γ, L, G, env, fl, E, hio, hx, k⟩ => by
    unfold exRetX at hx
    split at hx
    · rename_i d e1 hd
      cases hx
      refine ⟨Γ, L, G, env, d, e1, E, hd, fun v G' H' E' s r => k cls G' v σ H' E' s.gg ?_⟩
      cases fr with
      | false => exact r
      | true => exact ResF.h0 E r
    · cases hx
def exExprX (xa : EvDX) : PyI.Env → Option Fl := fun env => match xa env with
  | some (_, e1) => some (.nxt e1)
  | none => none
theorem x_expr (he : PE X e (tE X.K cls (PV X.K) xa)) (hs : swapsWith e none pos.line X.env = pure false) : PS X (.Expr e pos) (tS X.K io fr cls (some cls) lc (exExprX xa)) :=
  PS.imp' (ps_expr he hs) fun D σ H ⟨Γ, L, G, env, fl, E, hio, hx, k⟩ => by
    unfold exExprX at hx
    split at hx
    · cases hx
      exact ⟨Γ, L, G, env, _, _, E, by assumption, fun v G' H' E' s r => k cls rfl G' σ H' E' s.gg⟩
    · cases hx
def exIfX (xc : EvDX) (fa fb : PyI.Env → Option Fl) : PyI.Env → Option Fl := fun env => match xc env with
  | some (.bl true, e1) => fa e1
  | some (.bl false, e1) => fb e1
  | _ => none
theorem x_if' {c : PySem.Expr} {xc : EvDX} {sa sb : List Stmt} {fa fb : PyI.Env → Option Fl} {ca cb cm : Option (List Cl)} (hc : PT X c (tTE X.K cls xc)) (ha : PSs X sa (tS X.K io fr cls ca lc fa)) (hb : PSs X sb (tS X.K io fr cls cb lc fb))
    (h1 : ∀ {Γ : Gh} {L : List Addr} {G : Hp} {D : Ends} {fl : Fl}, Γ.io.map (·.1) = io → EndsOk X.K fr cm lc Γ L G D fl → EndsOk X.K fr ca lc Γ L G D fl ∧ EndsOk X.K fr cb lc Γ L G D fl) : PS X (.If c sa sb pos) (tS X.K io fr cls cm lc (exIfX xc fa fb)) :=
  PS.imp' (ps_if hc ha hb) fun D σ H ⟨Γ, L, G, env, fl, E, hio, hx, k⟩ => by
    unfold exIfX at hx
    split at hx
    · rename_i e1 h
      exact ⟨Γ, L, G, env, true, e1, E, h, fun G' H' E' s => ⟨Γ, L, G', e1, fl, E', hio, hx, (h1 hio (k.mono s.gg)).1⟩⟩
    · rename_i e1 h
      exact ⟨Γ, L, G, env, false, e1, E, h, fun G' H' E' s => ⟨Γ, L, G', e1, fl, E', hio, hx, (h1 hio (k.mono s.gg)).2⟩⟩
    · cases hx
/-- xs.append(e) -/
def exAppX (i : Nat) (xa : EvDX) : PyI.Env → Option Fl := fun env => if isLst (look env i) = true then (match xa env with
  | some (d, e1) => (match look e1 i with
    | some (.lst xs) => if xs.length < BIG then some (.nxt (e1.set i (some (.lst (xs ++ [d]))))) else none
    | _ => none)
  | none => none) else none
theorem isLst_inv {o : Option D} (h : isLst o = true) : ∃ xs, o = some (.lst xs) := by
  unfold isLst at h
  split at h
  · exact ⟨_, rfl⟩
  · cases h
theorem x_app' {x : Str} {apos p1 : Pos} (hN : X.N[i]? = some x) (hv : Vis X.env.scope x) (h1 : (x == ("__debug__" : Str)) = false) (h2 : (x == ("__classdict__" : Str)) = false) (hc : clA cls i = .O) (he : PE X e (tE X.K cls (PV X.K) xa)) (hn : notStar e = true) (hab : abB (.Name x p1) = true) (hline : (apos.endLine == py.line) = true) :
    PS X (.Expr (.Call (.Attribute (.Name x p1) "append" apos) [e] [] py) pos) (tS X.K io fr cls (some cls) lc (exAppX i xa)) := by
  have hs1 : starEach [e] X.env = (false, eval e X.env) :: starEach [] X.env := by cases e <;> first | rfl | cases hn
  refine PS.imp' (ps_expr (pe_bm PySem.F.plainAttrs_list PySem.F.slot_list_append PySem.F.type_list_append mt_append (pe_var hN hv h1 h2) (pa_cons he pa_nil hs1) (abB_ok hab) (by rw [hs1]; rfl) hline hs1 rfl) rfl) fun D σ H ⟨Γ, L, G, env, fl, E, hio, hx, k⟩ => ?_
  unfold exAppX at hx
  split at hx
  · rename_i hl0
    obtain ⟨xs0, hl0⟩ := isLst_inv hl0
    obtain ⟨a, hσ, own⟩ := own_of E hc hl0 rfl
    split at hx
    · rename_i d e1 hd
      split at hx
      · rename_i xs hl
        split at hx
        · rename_i hz
          cases hx
          obtain ⟨zs, hH0, rr0⟩ := id own
          refine ⟨_, hσ, .inl ⟨rfl, zs, .inl (.inl hH0)⟩, Γ, L, G, env, d, e1, E, hd, fun w G1 H1 E1 s1 r1 => ?_⟩
          obtain ⟨a', hσ', own'⟩ := own_of E1 hc hl rfl
          rw [hσ] at hσ'; cases hσ'
          obtain ⟨ys, hH, rr⟩ := own'
          refine ⟨a, ys, w, rfl, rfl, hH, Nat.lt_of_lt_of_le (by rw [rr.length]; exact hz) BIG_line, k cls rfl G1 σ _ ?_ s1.gg⟩
          exact E1.write hc (look_some hl) rfl hσ rfl ⟨_, upd_same, rr.append (.cons r1 .nil)⟩
        · cases hx
      · cases hx
    · cases hx
  · cases hx
/-- d[k] = v, xs[j] = v -/
def exSetX (i : Nat) (ek : EvD) (xa : EvDX) : PyI.Env → Option Fl := fun env => match xa env with
  | some (d, e1) => exSetix i ek (fun _ => some d) e1
  | none => none
theorem x_setix {x : Str} {ek : EvD} {p1 : Pos} (hu : X.A.units + 1 < cLine) (hN : X.N[i]? = some x) (hv : Vis X.env.scope x) (h1 : (x == ("__debug__" : Str)) = false) (h2 : (x == ("__classdict__" : Str)) = false) (hc : clA cls i = .O) (hk : PE X b (tG X.K cls (PR X.K) ek)) (hb : notSlice b = true)
    (he : PE X e (tE X.K cls (PV X.K) xa)) (hs : swapsWithSole [.Subscript (.Name x p1) b py] e pos.line X.env = pure false) : PS X (.Assign [.Subscript (.Name x p1) b py] e pos) (tS X.K io fr cls (some cls) lc (exSetX i ek xa)) := by
  have ha : ∀ v, assign (.Subscript (.Name x p1) b py) X.env v = (do
      let ov ← holding [v] (eval (.Name x p1) X.env)
      let iv ← holding [v, ov] (eval b X.env)
      standAt py
      holding [v, ov, iv] (setItem ov iv v)
      release [v, ov, iv] []) := by intro v; cases b <;> first | rfl | cases hb
  refine PS.imp' (ps_asg he (pg_sub (pe_var hN hv h1 h2) hk (PSet.or (set_dict hu) set_list) ha) hs rfl rfl) fun D σ H ⟨Γ, L, G, env, fl, E, hio, hx, k⟩ => ?_
  unfold exSetX at hx
  split at hx
  · rename_i d e1 hd
    refine ⟨Γ, L, G, env, d, e1, E, hd, fun w G1 H1 E1 s1 r1 => ?_⟩
    unfold exSetix at hx
    simp only [] at hx
    split at hx
    · rename_i kvs hl
      obtain ⟨a, hσ, own⟩ := own_of E1 hc hl rfl
      split at hx
      · rename_i kd hkd
        split at hx
        · rename_i key hkey
          split at hx
          · rename_i hz
            cases hx
            refine ⟨_, hσ, Γ, L, G1, e1, kd, E1, hkd, fun u G2 H2 s2 r2 => .inl ?_⟩
            have E2 := E1.step s2
            obtain ⟨ks, hH, rk⟩ := own.ex s2.gg s2.hh
            refine ⟨a, _, rfl, .inl ⟨ks, key, hH, keyT r2 hkey, Nat.lt_of_lt_of_le (by rw [rk.length]; exact hz) BIG_line, rfl⟩, k cls rfl G2 σ _ ?_ (s1.gg.trans s2.gg)⟩
            exact E2.write hc (look_some hl) rfl hσ rfl ⟨_, upd_same, rk.put (r1.mono s2.gg)⟩
          · cases hx
        · cases hx
      · cases hx
    · rename_i xs hl
      obtain ⟨a, hσ, own⟩ := own_of E1 hc hl rfl
      split at hx
      · rename_i j hkd
        split at hx
        · rename_i jn hj
          cases hx
          refine ⟨_, hσ, Γ, L, G1, e1, _, E1, hkd, fun u G2 H2 s2 r2 => .inr ?_⟩
          have E2 := E1.step s2
          obtain ⟨ys, hH, rr⟩ := own.ex s2.gg s2.hh
          refine ⟨a, ys, j, jn, rfl, r2, hH, by rw [rr.length]; exact hj, k cls rfl G2 σ _ ?_ (s1.gg.trans s2.gg)⟩
          exact E2.write hc (look_some hl) rfl hσ rfl ⟨_, upd_same, rr.set (r1.mono s2.gg) jn⟩
        · cases hx
      · cases hx
    · cases hx
  · cases hx
/-- xs.extend(ys), ys new or owned -/
def tL (K : PySem.W.Frag) (cls : List Cl) (i : Nat) (ev : EvD) : TE := fun σ H Q => ∃ Γ L G env ds, EnvRel K Γ L cls G env σ H ∧ ev env = some (.lst ds) ∧ ∀ v G' H', Step (L ++ Γ.L0) G H G' H' → (∃ b zs, v = .ref b ∧ H' b = some (.lst zs) ∧ RepL K G' zs ds) → Q v H'
theorem tL_new {ev : EvD} (h : PE X e (tG X.K cls (PX X.K true) ev)) : PE X e (tL X.K cls i ev) :=
  PE.imp h fun σ H Q ⟨Γ, L, G, env, ds, E, hv, k⟩ => ⟨Γ, L, G, env, _, E, hv, fun v G' H' s r => by
    have r' : ResF X.K G' H H' v (.lst ds) := r
    obtain ⟨p, e1, _, _, zs, h1, h2⟩ := r'
    exact k v G' H' s ⟨p, zs, e1, h1, h2⟩⟩
theorem tL_own {x : Str} {j : Nat} {p1 : Pos} (hN : X.N[j]? = some x) (hv : Vis X.env.scope x) (h1 : (x == ("__debug__" : Str)) = false) (h2 : (x == ("__classdict__" : Str)) = false) (hc : clA cls j = .O) : PE X (.Name x p1) (tL X.K cls i fun env => look env j) :=
  PE.imp (pe_var hN hv h1 h2) fun σ H Q ⟨Γ, L, G, env, ds, E, hl, k⟩ => by
    obtain ⟨a, hσ, zs, h1, h2⟩ := own_of E hc hl rfl
    exact ⟨_, hσ, k _ G H (Step.refl E.fz) ⟨a, zs, rfl, h1, h2⟩⟩
def exExt (i : Nat) (ev : EvD) : PyI.Env → Option Fl := fun env => match look env i with
  | some (.lst xs) => (match ev env with
    | some (.lst ys) => if xs.length + ys.length ≤ BIG then some (.nxt (env.set i (some (.lst (xs ++ ys))))) else none
    | _ => none)
  | _ => none
theorem x_ext {x : Str} {ev : EvD} {apos p1 : Pos} (hN : X.N[i]? = some x) (hv : Vis X.env.scope x) (h1 : (x == ("__debug__" : Str)) = false) (h2 : (x == ("__classdict__" : Str)) = false) (hc : clA cls i = .O) (he : PE X e (tL X.K cls i ev)) (hn : notStar e = true) (hab : abB (.Name x p1) = true) (hline : (apos.endLine == py.line) = true) :
    PS X (.Expr (.Call (.Attribute (.Name x p1) "extend" apos) [e] [] py) pos) (tS X.K io fr cls (some cls) lc (exExt i ev)) := by
  have hs1 : starEach [e] X.env = (false, eval e X.env) :: starEach [] X.env := by cases e <;> first | rfl | cases hn
  refine PS.imp' (ps_expr (pe_bm PySem.F.plainAttrs_list PySem.F.slot_list_extend PySem.F.type_list_extend mt_extend (pe_var hN hv h1 h2) (pa_cons he pa_nil hs1) (abB_ok hab) (by rw [hs1]; rfl) hline hs1 rfl) rfl) fun D σ H ⟨Γ, L, G, env, fl, E, hio, hx, k⟩ => ?_
  unfold exExt at hx
  split at hx
  · rename_i xs hl
    obtain ⟨a, hσ, own⟩ := own_of E hc hl rfl
    split at hx
    · rename_i ys hd
      split at hx
      · rename_i hz
        cases hx
        obtain ⟨zs, hH0, rr0⟩ := id own
        refine ⟨_, hσ, .inl ⟨rfl, zs, .inl (.inl hH0)⟩, Γ, L, G, env, ys, E, hd, fun w G1 H1 s1 ⟨b, ws, hw, hb, rw'⟩ => ?_⟩
        subst hw
        have E1 := E.step s1
        obtain ⟨qs, hH, rr⟩ := own.ex s1.gg s1.hh
        refine ⟨a, b, qs, ws, rfl, rfl, hH, hb, Nat.le_trans (by rw [rr.length, rw'.length]; exact hz) BIG_line, k cls rfl G1 σ _ ?_ s1.gg⟩
        exact E1.write hc (look_some hl) rfl hσ rfl ⟨_, upd_same, rr.append rw'⟩
      · cases hx
    · cases hx
  · cases hx
/-- xs.clear() -/
def exClr (i : Nat) : PyI.Env → Option Fl := fun env => match look env i with
  | some (.lst _) => some (.nxt (env.set i (some (.lst []))))
  | some (.dic _) => some (.nxt (env.set i (some (.dic []))))
  | _ => none
theorem x_clr {x : Str} {apos p1 : Pos} (hN : X.N[i]? = some x) (hv : Vis X.env.scope x) (h1 : (x == ("__debug__" : Str)) = false) (h2 : (x == ("__classdict__" : Str)) = false) (hc : clA cls i = .O) (hab : abB (.Name x p1) = true) (hline : (apos.endLine == py.line) = true) :
    PS X (.Expr (.Call (.Attribute (.Name x p1) "clear" apos) [] [] py) pos) (tS X.K io fr cls (some cls) lc (exClr i)) := by
  refine PS.imp' (ps_expr (PE.or (pe_bm0 PySem.F.plainAttrs_list PySem.F.slot_list_clear PySem.F.type_list_clear mt_clear (pe_var hN hv h1 h2) (abB_ok hab) hline) (pe_dclear (pe_var hN hv h1 h2) (abB_ok hab) hline)) rfl) fun D σ H ⟨Γ, L, G, env, fl, E, hio, hx, k⟩ => ?_
  unfold exClr at hx
  split at hx
  · rename_i xs hl
    cases hx
    obtain ⟨a, hσ, own⟩ := own_of E hc hl rfl
    obtain ⟨zs, hH0, rr0⟩ := id own
    exact .inl ⟨_, hσ, .inl ⟨rfl, zs, .inl (.inl hH0)⟩, a, zs, rfl, rfl, hH0, k cls rfl G σ _ (E.write hc (look_some hl) rfl hσ rfl ⟨_, upd_same, .nil⟩) (Ex.refl G)⟩
  · rename_i xs hl
    cases hx
    obtain ⟨a, hσ, own⟩ := own_of E hc hl rfl
    obtain ⟨zs, hH0, rr0⟩ := id own
    exact .inr ⟨_, hσ, .inr (.inr (.inl ⟨rfl, .inl ⟨zs, hH0⟩⟩)), a, zs, rfl, rfl, hH0, k cls rfl G σ _ (E.write hc (look_some hl) rfl hσ rfl ⟨_, upd_same, .nil⟩) (Ex.refl G)⟩
  · cases hx
/-- for x in range(e) -/
def tItX (K : PySem.W.Frag) (cls : List Cl) (ev : PyI.Env → Option (List D × PyI.Env)) : TI := fun σ H R => ∃ Γ L G env ds env', EnvRel K Γ L cls G env σ H ∧ ev env = some (ds, env') ∧
  ∀ J G' H', EnvRel K Γ L cls G' env' σ H' → StepE cls σ env env' G H G' H' → WalkD K false (Stab false Γ L G' H') G' J ds → R J H'
def rngX (xa : EvDX) : PyI.Env → Option (List D × PyI.Env) := fun env => match xa env with
  | some (x, e1) => (match iterD .range [x] with
    | some ds => some (ds, e1)
    | none => none)
  | none => none
theorem x_range {tg : PySem.Expr} {p : Pos} (hg : Gl X "range") (hm : X.mg "range" = none) (ha : PE X a (tE X.K cls (PV X.K) xa)) (hn : notStar a = true) : PI X tg (.Call (.Name "range" p) [a] [] pos) (tItX X.K cls (rngX xa)) := by
  have hs : starEach [a] X.env = [(false, eval a X.env)] := by cases a <;> first | rfl | cases hn
  refine PI.imp (pi_range1 hg hm (pa_cons ha pa_nil hs) hs) fun σ H R ⟨Γ, L, G, env, ds, env', E, hv, k⟩ => ?_
  unfold rngX at hv
  split at hv
  · rename_i x e1 hx
    split at hv
    · rename_i ds' hi
      cases hv
      cases x with
      | int j =>
        obtain ⟨c, e⟩ := ifs (show (if small62 j = true then some (rangeD 0 1 j.toNat) else none) = some ds from hi)
        subst e
        have hb : -(2 ^ 62) ≤ j ∧ j < 2 ^ 62 := by simpa [small62] using c
        refine ⟨Γ, L, G, env, _, env', E, hx, fun v G' H' E' s r => ⟨j, ?_, hb.1, hb.2, k _ G' H' E' s ⟨fun i H x H' => H' = H ∧ x = .int (0 + i), ?_, ?_⟩⟩⟩
        · have r' : Rep X.K G' v (.int j) := r
          cases r'; rfl
        · have e : (rangeD 0 1 j.toNat).length = j.toNat := by simp [rangeD]
          rw [e]
          exact walk_range.mono (fun _ _ => trivial) fun i H x H' _ _ y => y
        · intro i G2 H2 x H3 hi' q y
          obtain ⟨e1, rfl⟩ := y
          have hi2 : i < j.toNat := by simpa [rangeD] using hi'
          exact ⟨.int (0 + i * 1), by simp [rangeD, hi2], .inl ⟨e1, by rw [Int.mul_one]; exact .int _⟩⟩
      | _ => cases hi
    · cases hv
  · cases hv
/-- for x in e -/
def ofX (xa : EvDX) : PyI.Env → Option (List D × PyI.Env) := fun env => match xa env with
  | some (x, e1) => (match iterD .of [x] with
    | some ds => some (ds, e1)
    | none => none)
  | none => none
theorem x_of {tg : PySem.Expr} (ha : PE X a (tE X.K cls (PV X.K) xa)) : PI X tg a (tItX X.K cls (ofX xa)) := by
  refine PI.imp (PI.or (pi_list ha) (PI.or (pi_tup ha) (pi_str ha))) fun σ H R ⟨Γ, L, G, env, ds, env', E, hv, k⟩ => ?_
  unfold ofX at hv
  split at hv
  · rename_i x e1 hx
    split at hv
    · rename_i ds' hi
      cases hv
      cases x with
      | lst xs =>
        cases hi
        refine .inl ⟨Γ, L, G, env, _, env', E, hx, fun v G' H' E' s r => ?_⟩
        obtain ⟨a, ys, rfl, rr, st⟩ := SrcOk.ofV (m := false) (Γ := Γ) (L := L) (H1 := H') (show Rep X.K G' v (.lst _) from r)
        refine ⟨a, rfl, ⟨ys, st G' H' E'.stab⟩, k _ G' H' E' s ⟨YAt ys, ?_, ?_⟩⟩
        · rw [← rr.length]
          exact walk_list.mono (fun H ⟨G, q⟩ => st G H q) fun i H x H' _ _ y => y
        · intro i G2 H2 x H3 hi' q y
          obtain ⟨e1, e2⟩ := y
          obtain ⟨d, h1, h2⟩ := rr.getV e2
          exact ⟨d, h1, .inl ⟨e1, h2⟩⟩
      | tup xs =>
        cases hi
        refine .inr (.inl ⟨Γ, L, G, env, _, env', E, hx, fun v G' H' E' s r => ?_⟩)
        obtain ⟨a, ys, rfl, rr, st⟩ := SrcOk.ofV (m := false) (Γ := Γ) (L := L) (H1 := H') (show Rep X.K G' v (.tup _) from r)
        refine ⟨a, rfl, ⟨ys, st G' H' E'.stab⟩, k _ G' H' E' s ⟨YAt ys, ?_, ?_⟩⟩
        · rw [← rr.length]
          exact walk_tup.mono (fun H ⟨G, q⟩ => st G H q) fun i H x H' _ _ y => y
        · intro i G2 H2 x H3 hi' q y
          obtain ⟨e1, e2⟩ := y
          obtain ⟨d, h1, h2⟩ := rr.getV e2
          exact ⟨d, h1, .inl ⟨e1, h2⟩⟩
      | str z =>
        cases hi
        refine .inr (.inr ⟨Γ, L, G, env, _, env', E, hx, fun v G' H' E' s r => ?_⟩)
        refine ⟨z, (SrcOk.ofV (m := false) (Γ := Γ) (L := L) (H1 := H') (show Rep X.K G' v (.str z) from r) : v = .str z), k _ G' H' E' s ⟨fun i H v H' => H' = H ∧ ∃ c, z.cps[i]? = some c ∧ v = .str ⟨#[c]⟩, ?_, ?_⟩⟩
        · have e : (chars z).length = z.cps.size := by simp [chars]
          rw [e]
          exact walk_str.mono (fun _ _ => trivial) fun i H x H' _ _ y => y
        · intro i G2 H2 x H3 hi' q y
          obtain ⟨e1, c, e2, rfl⟩ := y
          exact ⟨.str ⟨#[c]⟩, by simp [chars, e2], .inl ⟨e1, .str _⟩⟩
      | _ => cases hi
    · cases hv
  · cases hv
def eCompXX (xelt : EvDX) (tg : Tg) (src : PyI.Env → Option (List D × PyI.Env)) : EvDX := fun env => match src env with
  | some (xs, e0) => (if xs.length ≤ BIG then match cmpX xelt tg e0 xs with
    | some (ys, e1) => some (.lst ys, e1)
    | none => none
    else none)
  | none => none
theorem eCompXX_inv {xelt : EvDX} {tg : Tg} {src : PyI.Env → Option (List D × PyI.Env)} {env env' : PyI.Env} {d : D} (h : eCompXX xelt tg src env = some (d, env')) : ∃ xs ys e0, src env = some (xs, e0) ∧ xs.length ≤ BIG ∧ cmpX xelt tg e0 xs = some (ys, env') ∧ d = .lst ys := by
  unfold eCompXX at h
  split at h
  · rename_i xs e0 hx
    by_cases hb : xs.length ≤ BIG
    · rw [if_pos hb] at h
      split at h
      · rename_i ys e1 hy
        cases h
        exact ⟨xs, ys, e0, hx, hb, hy, rfl⟩
      · cases h
    · rw [if_neg hb] at h; cases h
  · cases h
theorem x_compX {elt tg' iter : PySem.Expr} {scope : Scope} {tg : Tg} {own : List (Str × Nat)} {xelt : EvDX} {pos : Pos} {src : PyI.Env → Option (List D × PyI.Env)} (P : XcParts X cls elt tg' scope tg own xelt) (hi : PI X tg' iter (tItX X.K cls src)) (hs : ∀ x, foldedSetIterable iter X.env x = pure x) :
    PE X (.ListComp elt [⟨tg', iter, [], 0⟩] scope pos) (tE X.K cls (PX X.K true) (eCompXX xelt tg src)) := by
  refine PE.imp (pe_lc P.calm P.nd hi P.ok P.g P.t P.e hs) fun σ H Q ⟨Γ, L, G, env, d, env', E, hv, k⟩ => ?_
  obtain ⟨xs, ys, e0, h1, h2, h3, rfl⟩ := eCompXX_inv hv
  refine ⟨Γ, L, G, env, xs, e0, E, h1, fun J G1 H1 E1 s1 w D hD => ?_⟩
  rw [P.own]
  exact xc_use (pr := false) E1 w (fun q => by cases q) P.f h3 h2 (fun v G' H' E' s r => k v G' H' E' (s1.trans s) (ResF.backE s1 r)) D hD
theorem a_compX {elt tg' iter : PySem.Expr} {scope : Scope} {tg : Tg} {own : List (Str × Nat)} {xelt : EvDX} {pos spos py : Pos} {i : Nat} {y : Str} {src : PyI.Env → Option (List D × PyI.Env)} (P : XcParts X cls elt tg' scope tg own xelt) (hi : PI X tg' iter (tItX X.K cls src)) (hs : ∀ x, foldedSetIterable iter X.env x = pure x)
    (hy : X.N[i]? = some y) (hyl : X.env.scope.names.lookup y = some .local) (hsw : swapsWith (.ListComp elt [⟨tg', iter, [], 0⟩] scope pos) (some (.Name y py)) spos.line X.env = pure true) :
    PS X (.Assign [.Name y py] (.ListComp elt [⟨tg', iter, [], 0⟩] scope pos) spos) (tAsg (tE X.K cls (PX X.K true) (eCompXX xelt tg src)) (gName i)) := by
  have h := ps_setLc P.calm P.nd hy hyl hsw hi P.ok P.g P.t P.e hs
  refine ⟨fun pins s σ H D I q => h.run pins s σ H D I ?_⟩
  obtain ⟨Γ, L, G, env, d, env', E, hv, k⟩ := q
  obtain ⟨xs, ys, e0, h1, h2, h3, rfl⟩ := eCompXX_inv hv
  refine ⟨Γ, L, G, env, xs, e0, E, h1, fun J G1 H1 E1 s1 w D hD => ?_⟩
  rw [P.own]
  exact xc_use (pr := false) E1 w (fun q => by cases q) P.f h3 h2 (fun v G' H' E' s r => k v G' H' E' (s1.trans s) (ResF.backE s1 r)) D hD
def exForX (tg : Tg) (src : PyI.Env → Option (List D × PyI.Env)) (f : PyI.Env → Option Fl) : PyI.Env → Option Fl := fun env => match src env with
  | some (xs, e1) => forL (fF tg f) e1 xs
  | none => none
theorem x_for' {tg : Tg} {tg' iter : PySem.Expr} {body : List Stmt} {f : PyI.Env → Option Fl} {cb : Option (List Cl)} {src : PyI.Env → Option (List D × PyI.Env)} (hp : PassesOwn (model X.prog X.w) X.A X.env X.xe) (hc : X.calm = true) (hi : PI X tg' iter (tItX X.K cls src)) (hg : PG X tg' (gOf X.K tg)) (hb : PSs X body (tS X.K io fr (clsT cls tg) cb (some cls) f)) (hs : ∀ x, foldedSetIterable iter X.env x = pure x)
    (hf : tgF cls (ixT tg) = true) (hco : ∀ c, cb = some c → coerOk io c cls = true) : PS X (.For tg' iter body [] pos) (tS X.K io fr cls (some cls) lc (exForX tg src f)) :=
  PS.imp' (ps_for hp hc hi hg hb hs) fun D σ H ⟨Γ, L, G, env, fl, E, hio, hx, k⟩ => by
    unfold exForX at hx
    split at hx
    · rename_i xs e1 h1
      exact ⟨Γ, L, G, env, xs, e1, E, h1, fun J G1 H1 E1 s1 w => for_use (pr := false) (lc := lc) (G0 := G) E1 w (fun q => by cases q) hf hio hco coer_refl hx (k.mono s1.gg)⟩
    · cases hx
end
end PyI
end

section
set_option maxRecDepth 100000
set_option maxHeartbeats 4000000
namespace PyI
open PySem PySem.Spec PyProof.Rows L2
/-- the result is new, or no list and no dict -/
def frX (fds : List FDef) : XE → Bool
  | .p e => frE fds e
  | .lst _ => true
  | .comp _ _ _ _ => true
  | .compx _ _ _ => true
  | .call f _ _ => match fds[f]? with
    | some fd => fd.fresh
    | none => false
  | _ => false
section
variable (S : Stat)
def vOp2X (o : Op2) : PySem.Expr → Option (PySem.Expr × PySem.Expr)
  | .Subscript l r _ => okIf (decide (o = .ix) && notSlice r) (l, r)
  | .BinOp l op r _ => okIf (opM o op) (l, r)
  | .Compare l [op] [r] _ => okIf (cmM o op && notSet r) (l, r)
  | _ => none
def vPop (sc : Scope) (i : Nat) : PySem.Expr → Bool
  | .Call (.Attribute (.Name x p) m apos) [] [] cpos => nmB S.N sc i x && decide (m = ("pop" : Str)) && abB (.Name x p) && (apos.endLine == cpos.line)
  | _ => false
def isVarE (i : Nat) : XE → Bool
  | .p (.var j) => decide (j = i)
  | _ => false
def srcX (cls : List Cl) : E → Bool
  | .var i => decide (clA cls i ≠ .O)
  | e => vpos cls e
mutual
def chkX (sc : Scope) (cls : List Cl) : XE → PySem.Expr → Bool
  | .p e, a => chkE S sc cls e a && vpos cls e
  | .not_ x, a => (match vNot a with
    | some y => chkX sc cls x y
    | none => false)
  | .o1 o x, a => (match vC1 S sc o a with
    | some y => chkX sc cls x y
    | none => false)
  | .o2 o x y, a => (match vOp2X o a with
    | some (b, c) => chkX sc cls x b && chkX sc cls y c
    | none => false)
  | .tup es, a => (match vTup a with
    | some xs => chkXs sc cls es (List.replicate es.length .v) xs && decide (es.length ≤ 1000)
    | none => false)
  | .lst es, a => (match vLst a with
    | some xs => chkXs sc cls es (List.replicate es.length .v) xs && decide (es.length ≤ 1000)
    | none => false)
  | .and_ x y, a => (match vAnd a with
    | some (b, c) => chkX sc cls x b && chkX sc cls y c
    | none => false)
  | .or_ x y, a => (match vOr a with
    | some (b, c) => chkX sc cls x b && chkX sc cls y c
    | none => false)
  | .call f args ms, a => (match S.fds[f]? with
    | some fd => (match vCall sc fd a with
      | some xs => chkXs sc cls args ms xs && callOk cls fd ms && !xs.isEmpty
      | none => false)
    | none => false)
  | .pop i, a => vPop S sc i a && decide (clA cls i = .O)
  | .comp elt tg io src, a => (match vComp a with
    | some (elt', tg', iter', ifs', scope') =>
      (match vIter S sc io iter' with
      | some xs => chkEs S sc cls src xs && notSet iter' && (!ioPr io || isTupTg tg) && !ioD io && src.all (srcX cls) && blkC S.N sc scope' (tgOwn S.N tg) && tgB S.N scope' tg tg' && tgF cls (ixT tg) && ifs'.isEmpty &&
        chkX (relS scope' sc) (clsT cls tg) elt elt'
      | none => false)
    | none => false)
  | .compx elt tg x, a => (match vComp a with
    | some (elt', tg', iter', ifs', scope') => chkX sc cls x iter' && notSet iter' && blkC S.N sc scope' (tgOwn S.N tg) && tgB S.N scope' tg tg' && tgF cls (ixT tg) && ifs'.isEmpty &&
        chkX (relS scope' sc) (clsT cls tg) elt elt'
    | none => false)
def chkXs (sc : Scope) (cls : List Cl) : List XE → List Md → List PySem.Expr → Bool
  | [], [], [] => true
  | e :: es, .v :: ms, x :: xs => chkX sc cls e x && chkXs sc cls es ms xs
  | e :: es, .nw :: ms, x :: xs => chkX sc cls e x && frX S.fds e && chkXs sc cls es ms xs
  | e :: es, .io i :: ms, x :: xs => isVarE i e && vName S sc i x && chkXs sc cls es ms xs
  | _, _, _ => false
end
end
def evX (cf : CF) (x : XE) : EvDX := evalX cf x
def evXs (cf : CF) (xs : List XE) : EvDXs := evalXs cf xs
structure SndX (fds : List FDef) (cf : CF) (cls : List Cl) (X : Cx) (x : XE) (a : PySem.Expr) : Prop where
  ns : notStar a = true
  V : PE X a (tE X.K cls (PV X.K) (evX cf x))
  T : isIfE a = false → PT X a (tTE X.K cls (evX cf x))
  W : ∀ op l p, a = .BoolOp op l p → PW X a (tTE X.K cls (evX cf x))
  F : frX fds x = true → PE X a (tE X.K cls (PX X.K true) (evX cf x))
inductive SndXs (fds : List FDef) (cf : CF) (cls : List Cl) (X : Cx) : List XE → List Md → List PySem.Expr → Prop
  | nil : SndXs fds cf cls X [] [] []
  | consV {e : XE} {a : PySem.Expr} {es : List XE} {ms : List Md} {as : List PySem.Expr} : SndX fds cf cls X e a → SndXs fds cf cls X es ms as → SndXs fds cf cls X (e :: es) (.v :: ms) (a :: as)
  | consNew {e : XE} {a : PySem.Expr} {es : List XE} {ms : List Md} {as : List PySem.Expr} : SndX fds cf cls X e a → frX fds e = true → SndXs fds cf cls X es ms as → SndXs fds cf cls X (e :: es) (.nw :: ms) (a :: as)
  | consIo {i : Nat} {y : Str} {p : Pos} {es : List XE} {ms : List Md} {as : List PySem.Expr} : X.N[i]? = some y → Vis X.env.scope y → (y == ("__debug__" : Str)) = false → (y == ("__classdict__" : Str)) = false → SndXs fds cf cls X es ms as → SndXs fds cf cls X (.p (.var i) :: es) (.io i :: ms) (.Name y p :: as)
section
variable {S : Stat} {cf : CF} {cls : List Cl} {X : Cx} {a b c : PySem.Expr} {x y : XE}
theorem SndX.of (h : PE X a (tE X.K cls (PV X.K) (evX cf x))) (ns : notStar a = true) (ht : ∀ whole, isTrue a X.env whole = (do let v ← whole; standAt a.pos; holding [v] (truthy v))) (hw : ∀ op l p, a ≠ .BoolOp op l p) (hf : frX S.fds x = true → PE X a (tE X.K cls (PX X.K true) (evX cf x)) := by intro q; cases q) : SndX S.fds cf cls X x a :=
  ⟨ns, h, fun _ => e_T h ht, fun op l p q => absurd q (hw op l p), hf⟩
theorem SndXs.len {es : List XE} {ms : List Md} {as : List PySem.Expr} (h : SndXs S.fds cf cls X es ms as) : ms.length = as.length ∧ es.length = as.length := by
  induction h with
  | nil => exact ⟨rfl, rfl⟩
  | consV _ _ ih => simp [ih.1, ih.2]
  | consNew _ _ _ ih => simp [ih.1, ih.2]
  | consIo _ _ _ _ _ ih => simp [ih.1, ih.2]
theorem SndXs.ns {es : List XE} {ms : List Md} {as : List PySem.Expr} (h : SndXs S.fds cf cls X es ms as) : ∀ y ∈ as, notStar y = true := by
  induction h with
  | nil => intro y h; cases h
  | consV s _ ih =>
    intro y h
    rcases List.mem_cons.mp h with rfl | h
    · exact s.ns
    · exact ih y h
  | consNew s _ _ ih =>
    intro y h
    rcases List.mem_cons.mp h with rfl | h
    · exact s.ns
    · exact ih y h
  | consIo _ _ _ _ _ ih =>
    intro y h
    rcases List.mem_cons.mp h with rfl | h
    · rfl
    · exact ih y h
theorem SndXs.pa {es : List XE} {ms : List Md} {as : List PySem.Expr} (h : SndXs S.fds cf cls X es ms as) : PA X as (tAE X.K cls ms (evXs cf es)) := by
  induction h with
  | nil => exact x_nilA
  | consV s t ih =>
    have hs : ∀ {a : PySem.Expr} {as : List PySem.Expr}, notStar a = true → starEach (a :: as) X.env = (false, eval a X.env) :: starEach as X.env := by
      intro a as h; cases a <;> first | rfl | cases h
    exact x_consV s.V ih (hs s.ns)
  | consNew s q t ih =>
    have hs : ∀ {a : PySem.Expr} {as : List PySem.Expr}, notStar a = true → starEach (a :: as) X.env = (false, eval a X.env) :: starEach as X.env := by
      intro a as h; cases a <;> first | rfl | cases h
    exact x_consNew (s.F q) ih (hs s.ns)
  | consIo h1 h2 h3 h4 _ ih => exact x_consIo h1 h2 h3 h4 ih
theorem rep_none {n : Nat} : ∀ m ∈ List.replicate n Md.v, m = .v := fun m h => (List.mem_replicate.mp h).2
theorem sndx_p {e : E} (s : Snd S.fds cf cls X e a) (hv : vpos cls e = true) : SndX S.fds cf cls X (.p e) a where
  ns := s.ns
  V := e_pure (s.V hv)
  T := fun h => e_pureT (s.T h)
  W := fun op l p q => e_pureW (s.W op l p q)
  F := fun q => e_pure (s.F q)
theorem sndx_not (h : vNot a = some b) (s : SndX S.fds cf cls X x b) : SndX S.fds cf cls X (.not_ x) a := by
  unfold vNot at h
  split at h
  · obtain ⟨h1, rfl⟩ := okIf_inv h
    exact ⟨rfl, e_not s.V, fun _ => e_notT (s.T (by simpa using h1)), (by intro _ _ _ q; cases q), (by intro q; cases q)⟩
  · cases h
theorem sndx_o1 {o : Op1} (C : CtxOk S cf X) (h : vC1 S X.env.scope o a = some b) (s : SndX S.fds cf cls X x b) : SndX S.fds cf cls X (.o1 o x) a := by
  unfold vC1 at h
  split at h
  · split at h
    · rename_i y hy
      obtain ⟨h1, rfl⟩ := okIf_inv h
      obtain ⟨b1, b2, b3, b4⟩ := bl_of C h1
      exact SndX.of (e_V (x_call1 C.un C.calm hy b1 b2 b3 b4 s.V s.ns)) rfl (by intro _; rfl) (by intro _ _ _ q; cases q)
    · cases h
  · cases h
theorem sndx_o2 {o : Op2} (C : CtxOk S cf X) (h : vOp2X o a = some (b, c)) (s : SndX S.fds cf cls X x b) (t : SndX S.fds cf cls X y c) : SndX S.fds cf cls X (.o2 o x y) a := by
  unfold vOp2X at h
  split at h
  · obtain ⟨h1, h2⟩ := okIf_inv h
    cases h2
    rw [Bool.and_eq_true, decide_eq_true_eq] at h1
    obtain ⟨rfl, h1⟩ := h1
    exact SndX.of (e_ix (by have := C.un; omega) s.V t.V h1) rfl (by intro _; rfl) (by intro _ _ _ q; cases q)
  · obtain ⟨h1, h2⟩ := okIf_inv h
    cases h2
    exact SndX.of (e_V (e_bin (opB_of C.un h1) s.V t.V)) rfl (by intro _; rfl) (by intro _ _ _ q; cases q)
  · obtain ⟨h1, h2⟩ := okIf_inv h
    cases h2
    rw [Bool.and_eq_true] at h1
    obtain ⟨c1, c2⟩ := opC_of (X := X) C.un h1.1
    exact ⟨rfl, e_V (e_cmp c1 s.V t.V (behind_of h1.2)), fun _ => e_cmpT c2 c1 s.V t.V (behind_of h1.2), (by intro _ _ _ q; cases q), (by intro q; cases q)⟩
  · cases h
theorem sndx_tup {es : List XE} {as : List PySem.Expr} (h : vTup a = some as) (s : SndXs S.fds cf cls X es (List.replicate es.length .v) as) (hl : es.length ≤ 1000) : SndX S.fds cf cls X (.tup es) a := by
  unfold vTup at h
  split at h
  · cases h
    exact SndX.of (x_tup s.pa rep_none (by simpa using hl)) rfl (by intro _; rfl) (by intro _ _ _ q; cases q)
  · cases h
theorem sndx_lst {es : List XE} {as : List PySem.Expr} (h : vLst a = some as) (s : SndXs S.fds cf cls X es (List.replicate es.length .v) as) (hl : es.length ≤ 1000) : SndX S.fds cf cls X (.lst es) a := by
  unfold vLst at h
  split at h
  · cases h
    exact SndX.of (e_V (x_lst s.pa rep_none (by simpa using hl))) rfl (by intro _; rfl) (by intro _ _ _ q; cases q) (fun _ => x_lst s.pa rep_none (by simpa using hl))
  · cases h
theorem sndx_and (h : vAnd a = some (b, c)) (s : SndX S.fds cf cls X x b) (t : SndX S.fds cf cls X y c) : SndX S.fds cf cls X (.and_ x y) a := by
  unfold vAnd at h
  split at h
  · rename_i y0 r p
    obtain ⟨h1, h2⟩ := okIf_inv h
    rw [Bool.and_eq_true] at h1
    have pw1 : ∀ {e : PySem.Expr}, PT X e (tTE X.K cls (evX cf y)) → PW X (.BoolOp .And [e] p) (tTE X.K cls (evX cf y)) := fun h => pw_and1 h
    cases r with
    | nil =>
      cases h2
      have hw : PW X (.BoolOp .And [b, y0] p) (tTE X.K cls (evX cf (.and_ x y))) := e_andW (s.T (by simpa using h1.1)) (pw1 (t.T (by simpa using h1.2)))
      exact ⟨rfl, e_andV s.V (pe_one t.V), fun _ => hw.pt, (by intro _ _ _ q; cases q; exact hw), (by intro q; cases q)⟩
    | cons z r =>
      cases h2
      have hw : PW X (.BoolOp .And (b :: y0 :: z :: r) p) (tTE X.K cls (evX cf (.and_ x y))) := e_andW (s.T (by simpa using h1.1)) (t.W _ _ _ rfl)
      exact ⟨rfl, e_andV s.V t.V, fun _ => hw.pt, (by intro _ _ _ q; cases q; exact hw), (by intro q; cases q)⟩
  · cases h
theorem sndx_or (h : vOr a = some (b, c)) (s : SndX S.fds cf cls X x b) (t : SndX S.fds cf cls X y c) : SndX S.fds cf cls X (.or_ x y) a := by
  unfold vOr at h
  split at h
  · rename_i y0 r p
    obtain ⟨h1, h2⟩ := okIf_inv h
    rw [Bool.and_eq_true] at h1
    have pw1 : ∀ {e : PySem.Expr}, PT X e (tTE X.K cls (evX cf y)) → PW X (.BoolOp .Or [e] p) (tTE X.K cls (evX cf y)) := fun h => pw_or1 h
    cases r with
    | nil =>
      cases h2
      have hw : PW X (.BoolOp .Or [b, y0] p) (tTE X.K cls (evX cf (.or_ x y))) := e_orW (s.T (by simpa using h1.1)) (pw1 (t.T (by simpa using h1.2)))
      exact ⟨rfl, e_orV s.V (pe_one t.V), fun _ => hw.pt, (by intro _ _ _ q; cases q; exact hw), (by intro q; cases q)⟩
    | cons z r =>
      cases h2
      have hw : PW X (.BoolOp .Or (b :: y0 :: z :: r) p) (tTE X.K cls (evX cf (.or_ x y))) := e_orW (s.T (by simpa using h1.1)) (t.W _ _ _ rfl)
      exact ⟨rfl, e_orV s.V t.V, fun _ => hw.pt, (by intro _ _ _ q; cases q; exact hw), (by intro q; cases q)⟩
  · cases h
theorem sndx_call {i : Nat} {fd : FDef} {es : List XE} {ms : List Md} {xs : List PySem.Expr} (C : CtxOk S cf X) (hf : S.fds[i]? = some fd) (h : vCall X.env.scope fd a = some xs) (s : SndXs S.fds cf cls X es ms xs) (hk : callOk cls fd ms = true) (hne : xs.isEmpty = false) : SndX S.fds cf cls X (.call i es ms) a := by
  unfold vCall at h
  split at h
  · obtain ⟨h1, rfl⟩ := okIf_inv h
    simp only [Bool.and_eq_true, decide_eq_true_eq] at h1
    obtain ⟨⟨⟨⟨h1, h2⟩, h3⟩, h4⟩, h5⟩ := h1
    obtain ⟨F1, F2⟩ := C.fns i fd hf
    have pe : ∀ {p pos : Pos}, PE X (.Call (.Name _ p) _ [] pos) (tE X.K cls (PX X.K fd.fresh) (eCallX cf i ms (evXs cf es))) := fun {p pos} => x_call (pos := pos) (p := p) F2 (gl_of h2) h1 hk s.len.1 (fun z => by rw [z] at hne; cases hne) h4 h5 s.pa (beq_false_of h3) s.ns
    refine SndX.of (e_V pe) rfl (by intro _; rfl) (by intro _ _ _ q; cases q) fun q => ?_
    have q' : (match S.fds[i]? with | some fd => fd.fresh | none => false) = true := q
    rw [hf] at q'
    have q2 : fd.fresh = true := q'
    rw [q2] at pe
    exact pe
  · cases h
theorem sndx_pop {i : Nat} (C : CtxOk S cf X) (h : vPop S X.env.scope i a = true) (hc : clA cls i = .O) : SndX S.fds cf cls X (.pop i) a := by
  unfold vPop at h
  split at h
  · simp only [Bool.and_eq_true, decide_eq_true_eq] at h
    obtain ⟨⟨⟨h1, rfl⟩, h3⟩, h4⟩ := h
    obtain ⟨n1, n2, n3, n4⟩ := nm_of C h1
    exact SndX.of (x_pop n1 n2 n3 n4 hc h3 h4) rfl (by intro _; rfl) (by intro _ _ _ q; cases q)
  · cases h
theorem evXcomp_eq {elt : XE} {tg : Tg} {io : ItOp} {src : List E} : evX cf (.comp elt tg io src) = eCompX (evX cf elt) tg (evSrc cf io src) := by
  funext env
  unfold eCompX evSrc evX
  rw [evalX]
  cases evalEs cf env src with
  | none => rfl
  | some ss =>
    first
      | (simp only []; done)
      | (simp only []; cases iterD io ss <;> rfl)
      | (cases iterD io ss <;> rfl)
theorem evXcompx_eq {elt x : XE} {tg : Tg} : evX cf (.compx elt tg x) = eCompXX (evX cf elt) tg (ofX (evX cf x)) := by
  funext env
  unfold eCompXX ofX evX
  rw [evalX]
  cases evalX cf x env with
  | none => rfl
  | some q =>
    obtain ⟨y, e1⟩ := q
    first
      | (simp only []; done)
      | (simp only []; cases iterD .of [y] <;> rfl)
      | (cases iterD .of [y] <;> rfl)
theorem srcX_of {e : E} {z : PySem.Expr} (C : CtxOk S cf X) (h : srcX cls e = true) (s : Snd S.fds cf cls X e z) (hk : chkE S X.env.scope cls e z = true) : PE X z (tSrc X.K false cls (evE cf e)) := by
  cases e with
  | var i =>
    have hc : clA cls i ≠ .O := of_decide_eq_true h
    cases z with
    | Name y p =>
      obtain ⟨n1, n2, n3, n4⟩ := nm_of C (show nmB S.N X.env.scope i y = true from hk)
      exact src_B n1 n2 n3 n4 hc
    | _ => cases hk
  | _ => exact src_V (s.V h)
/-- what a walk asks of its sources -/
theorem itX_of {iter tg' : PySem.Expr} {io : ItOp} {src : List E} {xs : List PySem.Expr} (C : CtxOk S cf X) (h : vIter S X.env.scope io iter = some xs) (hd : ioD io = false) (hk : chkEs S X.env.scope cls src xs = true) (hs : src.all (srcX cls) = true) (hpr : ioPr io = true → ∃ elts k p, tg' = .Tuple elts k p) :
    PI X tg' iter (tIt X.K (ioPr io) false cls (evSrc cf io src)) := by
  have key : ∀ {e : E} {z : PySem.Expr} {es : List E} {zs : List PySem.Expr}, chkEs S X.env.scope cls (e :: es) (z :: zs) = true → (e :: es).all (srcX cls) = true → Snd S.fds cf cls X e z ∧ PE X z (tSrc X.K false cls (evE cf e)) ∧ chkEs S X.env.scope cls es zs = true ∧ es.all (srcX cls) = true := by
    intro e z es zs h1 h2
    have h1' : (chkE S X.env.scope cls e z && chkEs S X.env.scope cls es zs) = true := h1
    rw [Bool.and_eq_true] at h1'
    rw [List.all_cons, Bool.and_eq_true] at h2
    have s := chkE_ok e C h1'.1
    exact ⟨s, srcX_of C h2.1 s h1'.1, h1'.2, h2.2⟩
  have nil : ∀ {es : List E}, chkEs S X.env.scope cls es [] = true → es = [] := by
    intro es h; cases es with
    | nil => rfl
    | cons _ _ => cases h
  have con : ∀ {es : List E} {z : PySem.Expr} {zs : List PySem.Expr}, chkEs S X.env.scope cls es (z :: zs) = true → ∃ e r, es = e :: r := by
    intro es z zs h; cases es with
    | nil => cases h
    | cons e r => exact ⟨e, r, rfl⟩
  cases io with
  | of =>
    obtain ⟨h1, rfl⟩ := okIf_inv (show okIf (notSet iter) [iter] = some xs from h)
    obtain ⟨e, r, rfl⟩ := con hk
    obtain ⟨s, q, k2, _⟩ := key hk hs
    cases nil k2
    rw [evSrc1]; exact i_of q
  | range =>
    simp only [vIter] at h
    split at h
    · obtain ⟨h1, rfl⟩ := okIf_inv h
      obtain ⟨rfl, b2, b3, b4⟩ := bl_of C h1
      obtain ⟨e, r, rfl⟩ := con hk
      obtain ⟨s, q, k2, _⟩ := key hk hs
      cases nil k2
      rw [evSrc1]; exact i_range1 b2 b3 s.R s.ns
    · obtain ⟨h1, rfl⟩ := okIf_inv h
      obtain ⟨rfl, b2, b3, b4⟩ := bl_of C h1
      obtain ⟨e, r, rfl⟩ := con hk
      obtain ⟨s, q, k2, hs2⟩ := key hk hs
      obtain ⟨e', r', rfl⟩ := con k2
      obtain ⟨s', q', k3, _⟩ := key k2 hs2
      cases nil k3
      rw [evSrc2]; exact i_range2 b2 b3 s.R s.ns s'.R s'.ns
    · obtain ⟨h1, rfl⟩ := okIf_inv h
      obtain ⟨rfl, b2, b3, b4⟩ := bl_of C h1
      obtain ⟨e, r, rfl⟩ := con hk
      obtain ⟨s, q, k2, hs2⟩ := key hk hs
      obtain ⟨e', r', rfl⟩ := con k2
      obtain ⟨s', q', k3, hs3⟩ := key k2 hs2
      obtain ⟨e2, r2, rfl⟩ := con k3
      obtain ⟨s2, q2, k4, _⟩ := key k3 hs3
      cases nil k4
      rw [evSrc3]; exact i_range3 b2 b3 s.R s.ns s'.R s'.ns s2.R s2.ns
    · cases h
  | enum =>
    obtain ⟨elts, k, p, rfl⟩ := hpr rfl
    simp only [vIter] at h
    split at h
    · obtain ⟨h1, rfl⟩ := okIf_inv h
      obtain ⟨rfl, b2, b3, b4⟩ := bl_of C h1
      obtain ⟨e, r, rfl⟩ := con hk
      obtain ⟨s, q, k2, _⟩ := key hk hs
      cases nil k2
      rw [evSrc1]; exact i_enum b2 b3 q s.ns
    · cases h
  | rev =>
    simp only [vIter] at h
    split at h
    · obtain ⟨h1, rfl⟩ := okIf_inv h
      obtain ⟨rfl, b2, b3, b4⟩ := bl_of C h1
      obtain ⟨e, r, rfl⟩ := con hk
      obtain ⟨s, q, k2, _⟩ := key hk hs
      cases nil k2
      rw [evSrc1]; exact i_rev b2 b3 q s.ns
    · cases h
  | zip =>
    obtain ⟨elts, k, p, rfl⟩ := hpr rfl
    simp only [vIter] at h
    split at h
    · obtain ⟨h1, rfl⟩ := okIf_inv h
      obtain ⟨rfl, b2, b3, b4⟩ := bl_of C h1
      obtain ⟨e, r, rfl⟩ := con hk
      obtain ⟨s, q, k2, hs2⟩ := key hk hs
      obtain ⟨e', r', rfl⟩ := con k2
      obtain ⟨s', q', k3, _⟩ := key k2 hs2
      cases nil k3
      rw [evSrc2]; exact i_zip b2 b3 q s.ns q' s'.ns
    · cases h
  | _ => cases hd
theorem sndx_comp {elt : XE} {tg : Tg} {io : ItOp} {src : List E} {elt' tg' iter : PySem.Expr} {ifs xs : List PySem.Expr} {scope : Scope} (C : CtxOk S cf X) (h : vComp a = some (elt', tg', iter, ifs, scope)) (hi : vIter S X.env.scope io iter = some xs) (hk : chkEs S X.env.scope cls src xs = true)
    (h1 : notSet iter = true) (h2 : ioPr io = true → isTupTg tg = true) (h3 : ioD io = false) (hs : src.all (srcX cls) = true) (h4 : blkC S.N X.env.scope scope (tgOwn S.N tg) = true) (h5 : tgB S.N scope tg tg' = true) (h6 : tgF cls (ixT tg) = true) (h7 : ifs.isEmpty = true)
    (he : ∀ (s : Shared) (H : Hp) (K : Addr) (cl : List (Str × Addr)) (fp : List Addr), SndX S.fds cf (clsT cls tg) (X.blk s H scope (compEnvC scope cl K X.env) fp) elt elt') : SndX S.fds cf cls X (.comp elt tg io src) a := by
  have P : XcParts X cls elt' tg' scope tg (tgOwn S.N tg) (evX cf elt) := {
    calm := C.calm
    nd := C.nd
    ok := blkOk_by (by rw [C.N]; exact h4)
    own := own_ix _ _
    g := fun s H K cl fp => pg_of (X := X.blk s H scope (compEnvC scope cl K X.env) fp) C.N C.nd C.calm (fun y k q hk => relS_keep q hk) (fun y q => by show (scope.names.lookup y == some .cell) = true; rw [q]; rfl) h5
    t := fun s H K cl fp => by
      refine ⟨fun pins s σ H Q I q => pts_nil.run pins s σ H Q I ?_⟩
      obtain ⟨Γ, L, G, env, b, E, hl, k⟩ := q
      cases hl
      exact k G H (Step.refl E.fz)
    e := fun s H K cl fp => (he s H K cl fp).V
    f := h6 }
  have hpr : ioPr io = true → ∃ elts k p, tg' = .Tuple elts k p := fun q => tup_of h5 (h2 q)
  unfold vComp at h
  split at h
  · cases h
    rw [List.isEmpty_iff] at h7
    subst h7
    have pe := x_comp (pos := by assumption) P h2 (itX_of C hi h3 hk hs hpr) (folded_of h1)
    rw [← evXcomp_eq] at pe
    exact SndX.of (e_V pe) rfl (by intro _; rfl) (by intro _ _ _ q; cases q) (fun _ => pe)
  · cases h
theorem cx_parts {elt x : XE} {tg : Tg} {elt' tg' : PySem.Expr} {scope : Scope} (C : CtxOk S cf X)
    (h4 : blkC S.N X.env.scope scope (tgOwn S.N tg) = true) (h5 : tgB S.N scope tg tg' = true) (h6 : tgF cls (ixT tg) = true)
    (he : ∀ (s : Shared) (H : Hp) (K : Addr) (cl : List (Str × Addr)) (fp : List Addr), SndX S.fds cf (clsT cls tg) (X.blk s H scope (compEnvC scope cl K X.env) fp) elt elt') : XcParts X cls elt' tg' scope tg (tgOwn S.N tg) (evX cf elt) := {
    calm := C.calm
    nd := C.nd
    ok := blkOk_by (by rw [C.N]; exact h4)
    own := own_ix _ _
    g := fun s H K cl fp => pg_of (X := X.blk s H scope (compEnvC scope cl K X.env) fp) C.N C.nd C.calm (fun y k q hk => relS_keep q hk) (fun y q => by show (scope.names.lookup y == some .cell) = true; rw [q]; rfl) h5
    t := fun s H K cl fp => by
      refine ⟨fun pins s σ H Q I q => pts_nil.run pins s σ H Q I ?_⟩
      obtain ⟨Γ, L, G, env, b, E, hl, k⟩ := q
      cases hl
      exact k G H (Step.refl E.fz)
    e := fun s H K cl fp => (he s H K cl fp).V
    f := h6 }
theorem sndx_compx {elt x : XE} {tg : Tg} {elt' tg' iter : PySem.Expr} {ifs : List PySem.Expr} {scope : Scope} (C : CtxOk S cf X) (h : vComp a = some (elt', tg', iter, ifs, scope)) (hx : SndX S.fds cf cls X x iter)
    (h1 : notSet iter = true) (h4 : blkC S.N X.env.scope scope (tgOwn S.N tg) = true) (h5 : tgB S.N scope tg tg' = true) (h6 : tgF cls (ixT tg) = true) (h7 : ifs.isEmpty = true)
    (he : ∀ (s : Shared) (H : Hp) (K : Addr) (cl : List (Str × Addr)) (fp : List Addr), SndX S.fds cf (clsT cls tg) (X.blk s H scope (compEnvC scope cl K X.env) fp) elt elt') : SndX S.fds cf cls X (.compx elt tg x) a := by
  have P := cx_parts (x := x) C h4 h5 h6 he
  unfold vComp at h
  split at h
  · cases h
    rw [List.isEmpty_iff] at h7
    subst h7
    have pe := x_compX (pos := by assumption) P (x_of hx.V) (folded_of h1)
    rw [← evXcompx_eq] at pe
    exact SndX.of (e_V pe) rfl (by intro _; rfl) (by intro _ _ _ q; cases q) (fun _ => pe)
  · cases h
theorem asg_compx {elt x : XE} {tg : Tg} {elt' tg' iter : PySem.Expr} {ifs : List PySem.Expr} {scope : Scope} {i : Nat} {y : Str} {py spos : Pos} (C : CtxOk S cf X) (h : vComp a = some (elt', tg', iter, ifs, scope)) (hx : SndX S.fds cf cls X x iter)
    (h1 : notSet iter = true) (h4 : blkC S.N X.env.scope scope (tgOwn S.N tg) = true) (h5 : tgB S.N scope tg tg' = true) (h6 : tgF cls (ixT tg) = true) (h7 : ifs.isEmpty = true)
    (he : ∀ (s : Shared) (H : Hp) (K : Addr) (cl : List (Str × Addr)) (fp : List Addr), SndX S.fds cf (clsT cls tg) (X.blk s H scope (compEnvC scope cl K X.env) fp) elt elt')
    (hy : X.N[i]? = some y) (hyl : X.env.scope.names.lookup y = some .local) (hsw : swapsWith a (some (.Name y py)) spos.line X.env = pure true) : PS X (.Assign [.Name y py] a spos) (tAsg (tE X.K cls (PX X.K true) (evX cf (.compx elt tg x))) (gName i)) := by
  have P := cx_parts (x := x) C h4 h5 h6 he
  unfold vComp at h
  split at h
  · cases h
    rw [List.isEmpty_iff] at h7
    subst h7
    have pe := a_compX P (x_of hx.V) (folded_of h1) hy hyl hsw
    rw [← evXcompx_eq] at pe
    exact pe
  · cases h
end
mutual
theorem chkX_ok {S : Stat} {cf : CF} : ∀ (x : XE) {cls : List Cl} {X : Cx} {a : PySem.Expr}, CtxOk S cf X → chkX S X.env.scope cls x a = true → SndX S.fds cf cls X x a
  | .p e, _, _, _, C, h => by
    rw [chkX, Bool.and_eq_true] at h
    exact sndx_p (chkE_ok e C h.1) h.2
  | .not_ x, _, _, _, C, h => by
    rw [chkX] at h
    split at h
    · exact sndx_not (by assumption) (chkX_ok x C h)
    · cases h
  | .o1 o x, _, _, _, C, h => by
    rw [chkX] at h
    split at h
    · exact sndx_o1 C (by assumption) (chkX_ok x C h)
    · cases h
  | .o2 o x y, _, _, _, C, h => by
    rw [chkX] at h
    split at h
    · rw [Bool.and_eq_true] at h
      exact sndx_o2 C (by assumption) (chkX_ok x C h.1) (chkX_ok y C h.2)
    · cases h
  | .tup es, _, _, _, C, h => by
    rw [chkX] at h
    split at h
    · rw [Bool.and_eq_true, decide_eq_true_eq] at h
      exact sndx_tup (by assumption) (chkXs_ok es C h.1) h.2
    · cases h
  | .lst es, _, _, _, C, h => by
    rw [chkX] at h
    split at h
    · rw [Bool.and_eq_true, decide_eq_true_eq] at h
      exact sndx_lst (by assumption) (chkXs_ok es C h.1) h.2
    · cases h
  | .and_ x y, _, _, _, C, h => by
    rw [chkX] at h
    split at h
    · rw [Bool.and_eq_true] at h
      exact sndx_and (by assumption) (chkX_ok x C h.1) (chkX_ok y C h.2)
    · cases h
  | .or_ x y, _, _, _, C, h => by
    rw [chkX] at h
    split at h
    · rw [Bool.and_eq_true] at h
      exact sndx_or (by assumption) (chkX_ok x C h.1) (chkX_ok y C h.2)
    · cases h
  | .call f args ms, _, _, _, C, h => by
    rw [chkX] at h
    split at h
    · split at h
      · rw [Bool.and_eq_true, Bool.and_eq_true, Bool.not_eq_true'] at h
        exact sndx_call C (by assumption) (by assumption) (chkXs_ok args C h.1.1) h.1.2 h.2
      · cases h
    · cases h
  | .pop i, _, _, _, C, h => by
    rw [chkX, Bool.and_eq_true, decide_eq_true_eq] at h
    exact sndx_pop C h.1 h.2
  | .comp elt tg io src, _, _, _, C, h => by
    rw [chkX] at h
    split at h
    · split at h
      · rename_i hi
        simp only [Bool.and_eq_true, Bool.or_eq_true, Bool.not_eq_true'] at h
        obtain ⟨⟨⟨⟨⟨⟨⟨⟨⟨g1, g2⟩, g3⟩, g4⟩, g5⟩, g6⟩, g7⟩, g8⟩, g9⟩, g10⟩ := h
        refine sndx_comp C (by assumption) hi g1 g2 (fun q => ?_) g4 g5 g6 g7 g8 g9 (fun s H K cl fp => chkX_ok elt (C.blk s H _ _ fp) g10)
        rcases g3 with z | z
        · rw [z] at q; cases q
        · exact z
      · cases h
    · cases h
  | .compx elt tg x, _, _, _, C, h => by
    rw [chkX] at h
    split at h
    · simp only [Bool.and_eq_true] at h
      obtain ⟨⟨⟨⟨⟨⟨g1, g2⟩, g6⟩, g7⟩, g8⟩, g9⟩, g10⟩ := h
      exact sndx_compx C (by assumption) (chkX_ok x C g1) g2 g6 g7 g8 g9 (fun s H K cl fp => chkX_ok elt (C.blk s H _ _ fp) g10)
    · cases h
theorem chkXs_ok {S : Stat} {cf : CF} : ∀ (es : List XE) {ms : List Md} {cls : List Cl} {X : Cx} {as : List PySem.Expr}, CtxOk S cf X → chkXs S X.env.scope cls es ms as = true → SndXs S.fds cf cls X es ms as
  | [], [], _, _, [], _, _ => .nil
  | [], [], _, _, _ :: _, _, h => by cases h
  | [], _ :: _, _, _, _, _, h => by cases h
  | _ :: _, [], _, _, _, _, h => by cases h
  | _ :: _, .v :: _, _, _, [], _, h => by cases h
  | _ :: _, .nw :: _, _, _, [], _, h => by cases h
  | _ :: _, .io _ :: _, _, _, [], _, h => by cases h
  | e :: es, .nw :: ms, cls, X, a :: as, C, h => by
    rw [chkXs, Bool.and_eq_true, Bool.and_eq_true] at h
    exact .consNew (chkX_ok e C h.1.1) h.1.2 (chkXs_ok es C h.2)
  | e :: es, .v :: ms, cls, X, a :: as, C, h => by
    rw [chkXs, Bool.and_eq_true] at h
    exact .consV (chkX_ok e C h.1) (chkXs_ok es C h.2)
  | e :: es, .io i :: ms, cls, X, a :: as, C, h => by
    rw [chkXs, Bool.and_eq_true, Bool.and_eq_true] at h
    have h1 := h.1.1
    unfold isVarE at h1
    split at h1
    · have := of_decide_eq_true h1
      subst this
      cases a with
      | Name y p =>
        obtain ⟨n1, n2, n3, n4⟩ := nm_of C (show nmB S.N X.env.scope _ y = true from h.1.2)
        exact .consIo n1 n2 n3 n4 (chkXs_ok es C h.2)
      | _ => cases h.1.2
    · cases h1
end
def isCx : XE → Bool
  | .compx _ _ _ => true
  | _ => false
theorem chkX_A {S : Stat} {cf : CF} {x : XE} {cls : List Cl} {X : Cx} {a : PySem.Expr} (hc : isCx x = true) (C : CtxOk S cf X) (h : chkX S X.env.scope cls x a = true) {i : Nat} {y : Str} {py spos : Pos}
    (hy : X.N[i]? = some y) (hyl : X.env.scope.names.lookup y = some .local) (hsw : swapsWith a (some (.Name y py)) spos.line X.env = pure true) : PS X (.Assign [.Name y py] a spos) (tAsg (tE X.K cls (PX X.K true) (evX cf x)) (gName i)) := by
  cases x with
  | compx elt tg x =>
    rw [chkX] at h
    split at h
    · simp only [Bool.and_eq_true] at h
      obtain ⟨⟨⟨⟨⟨⟨g1, g2⟩, g6⟩, g7⟩, g8⟩, g9⟩, g10⟩ := h
      exact asg_compx C (by assumption) (chkX_ok x C g1) g2 g6 g7 g8 g9 (fun s H K cl fp => chkX_ok elt (C.blk s H _ _ fp) g10) hy hyl hsw
    · cases h
  | _ => cases hc
end PyI
end

section
set_option maxRecDepth 100000
set_option maxHeartbeats 4000000
namespace PyI
open PySem PySem.Spec PyProof.Rows L2
section
variable (S : Stat) (io : List Nat) (fr : Bool) (sc : Scope)
def swOk (x : Str) (py : Pos) : PySem.Expr → Bool
  | .ListComp _ _ scope p => decide (sc.names.lookup x = some .local) && (py.line == p.line) && !(scope.names.any fun (n, k) => n == x && (k == .local || k == .cell)) && (match sc.kind with | .function => true | _ => false)
  | e => !isLc e
def wAsg (i : Nat) : Stmt → Option PySem.Expr
  | .Assign [.Name x py] e _ => okIf (decide (S.N[i]? = some x) && locB sc x && swOk sc x py e) e
  | _ => none
def isTupE : PySem.Expr → Bool
  | .Tuple _ _ _ => true
  | _ => false
def wAsgT (is : List Nat) : Stmt → Option PySem.Expr
  | .Assign [.Tuple ts k p] e _ => okIf (tgB S.N sc (.tup is) (.Tuple ts k p) && !isTupE e) e
  | _ => none
def wSet (i : Nat) : Stmt → Option (PySem.Expr × PySem.Expr)
  | .Assign [.Subscript (.Name x _) b _] e _ => okIf (nmB S.N sc i x && notSlice b && !isLc e) (b, e)
  | _ => none
def wApp (i : Nat) : Stmt → Option PySem.Expr
  | .Expr (.Call (.Attribute (.Name x p) m apos) [e] [] cpos) _ => okIf (nmB S.N sc i x && decide (m = ("append" : Str)) && abB (.Name x p) && (apos.endLine == cpos.line)) e
  | _ => none
def wExt (i : Nat) : Stmt → Option PySem.Expr
  | .Expr (.Call (.Attribute (.Name x p) m apos) [e] [] cpos) _ => okIf (nmB S.N sc i x && decide (m = ("extend" : Str)) && abB (.Name x p) && (apos.endLine == cpos.line)) e
  | _ => none
def wClr (i : Nat) : Stmt → Bool
  | .Expr (.Call (.Attribute (.Name x p) m apos) [] [] cpos) _ => nmB S.N sc i x && decide (m = ("clear" : Str)) && abB (.Name x p) && (apos.endLine == cpos.line)
  | _ => false
def vRange1 : PySem.Expr → Option PySem.Expr
  | .Call (.Name f _) [y] [] _ => okIf (blB S sc f "range") y
  | _ => none
def extVar (cls : List Cl) (i : Nat) : E → Bool
  | .var j => decide (clA cls j = .O) && decide (j ≠ i)
  | _ => false
def wAug (i : Nat) (o : Op2) : Stmt → Option PySem.Expr
  | .AugAssign (.Name x _) op e _ => okIf (decide (S.N[i]? = some x) && locB sc x && ((decide (o = .add) && (match op with | .Add => true | _ => false)) || (decide (o = .sub) && (match op with | .Sub => true | _ => false)))) e
  | _ => none
def wRet : Stmt → Option PySem.Expr
  | .Return (some e) _ => some e
  | _ => none
def wRetN : Stmt → Bool
  | .Return none _ => true
  | _ => false
def wIf : Stmt → Option (PySem.Expr × List Stmt × List Stmt)
  | .If c a b _ => okIf (!isIfE c) (c, a, b)
  | _ => none
def wFor : Stmt → Option (PySem.Expr × PySem.Expr × List Stmt)
  | .For t e b [] _ => okIf (notSet e) (t, e, b)
  | _ => none
def wWhile : Stmt → Option (PySem.Expr × List Stmt)
  | .While c b [] _ => okIf (!isIfE c) (c, b)
  | _ => none
def wExpr : Stmt → Option PySem.Expr
  | .Expr e _ => okIf (!isLc e) e
  | _ => none
def wPass : Stmt → Bool
  | .Pass _ => true
  | _ => false
def wBrk : Stmt → Bool
  | .Break _ => true
  | _ => false
def wCnt : Stmt → Bool
  | .Continue _ => true
  | _ => false
def meet1 (a b : Cl) : Cl := if a = b then a else if a = .B || b = .B then .B else .F
def meet (a b : List Cl) : List Cl := List.zipWith meet1 a b
def joinC : Option (List Cl) → Option (List Cl) → Option (Option (List Cl))
  | none, c => some c
  | some a, none => some (some a)
  | some a, some b => if (coerOk io a (meet a b) && coerOk io b (meet a b)) = true then some (some (meet a b)) else none
def retVar (cls : List Cl) : E → Bool
  | .var i => decide (clA cls i = .O) && !io.contains i
  | _ => false
def srcV (cls : List Cl) : E → Bool
  | .var i => decide (clA cls i ≠ .O)
  | e => vpos cls e
def srcNeed : ItOp → Bool
  | .range => false
  | _ => true
def frzI : PyI.S → Option Nat
  | .frz i => some i
  | _ => none
mutual
/-- none: it does not fit; some none: nothing falls through; some (some c): the classes behind -/
def chkS (cls : List Cl) (lc : Option (List Cl)) : PyI.S → Stmt → Option (Option (List Cl))
  | .asg i own e, a => (match wAsg S sc i a with
    | some r => if (chkE S sc cls e r && decide (i < cls.length) && !io.contains i && (if own = true then frE S.fds e else vpos cls e)) = true then some (some (cls.set i (if own = true then .O else .F))) else none
    | none => none)
  | .asgT is e, a => (match wAsgT S sc is a with
    | some r => if (chkE S sc cls e r && vpos cls e && tgF cls is) = true then some (some (clsT cls (.tup is))) else none
    | none => none)
  | .setix i k v, a => (match wSet S sc i a with
    | some (b, r) => if (chkE S sc cls v r && chkE S sc cls k b && vpos cls v && decide (clA cls i = .O)) = true then some (some cls) else none
    | none => none)
  | .app i e, a => (match wApp S sc i a with
    | some r => if (chkE S sc cls e r && vpos cls e && decide (clA cls i = .O)) = true then some (some cls) else none
    | none => none)
  | .aug i o e, a => (match wAug S sc i o a with
    | some r => if (chkE S sc cls e r && decide (i < cls.length) && !io.contains i) = true then some (some (cls.set i .F)) else none
    | none => none)
  | .ret e, a => (match wRet a with
    | some r => if (chkE S sc cls e r && (if fr = true then frE S.fds e || retVar io cls e else vpos cls e)) = true then some none else none
    | none => none)
  | .retN, a => if wRetN a = true then some none else none
  | .iff c s t, a => (match wIf a with
    | some (x, y, z) => if chkE S sc cls c x = true then (match chkSs cls lc s y with
      | some ca => (match chkSs cls lc t z with
        | some cb => joinC io ca cb
        | none => none)
      | none => none) else none
    | none => none)
  | .for_ tg op src body, a => (match wFor a with
    | some (t, e, b) => (match vIter S sc op e with
      | some xs => if (chkEs S sc cls src xs && (!ioPr op || isTupTg tg) && (!ioD op || isVarN cls src) && (ioD op || !srcNeed op || src.all (srcV cls)) && tgB S.N sc tg t && tgF cls (ixT tg)) = true then
          (match chkSs (clsT cls tg) (some cls) body b with
          | some none => some (some cls)
          | some (some c) => if coerOk io c cls = true then some (some cls) else none
          | none => none) else none
      | none => none)
    | none => none)
  | .while_ c body, a => (match wWhile a with
    | some (x, b) => if chkE S sc cls c x = true then
        (match chkSs cls (some cls) body b with
        | some none => some (some cls)
        | some (some c) => if coerOk io c cls = true then some (some cls) else none
        | none => none) else none
    | none => none)
  | .expr e, a => (match wExpr a with
    | some r => if chkE S sc cls e r = true then some (some cls) else none
    | none => none)
  | .pass, a => if wPass a = true then some (some cls) else none
  | .brk, a => (match lc with
    | some c => if (wBrk a && coerOk io cls c) = true then some none else none
    | none => none)
  | .cnt, a => (match lc with
    | some c => if (wCnt a && coerOk io cls c) = true then some none else none
    | none => none)
  | .ext i e, a => (match wExt S sc i a with
    | some r => if (chkE S sc cls e r && (frE S.fds e || extVar cls i e) && decide (clA cls i = .O)) = true then some (some cls) else none
    | none => none)
  | .clr i, a => if (wClr S sc i a && decide (clA cls i = .O)) = true then some (some cls) else none
  | .xasg i own x, a => (match wAsg S sc i a with
    | some r => if (chkX S sc cls x r && decide (i < cls.length) && !io.contains i && (!isLc r || (isCx x && own)) && (!own || frX S.fds x)) = true then some (some (cls.set i (if own = true then .O else .F))) else none
    | none => none)
  | .xasgT is x, a => (match wAsgT S sc is a with
    | some r => if (chkX S sc cls x r && tgF cls is) = true then some (some (clsT cls (.tup is))) else none
    | none => none)
  | .xret x, a => (match wRet a with
    | some r => if (chkX S sc cls x r && !fr) = true then some none else none
    | none => none)
  | .xif c s t, a => (match wIf a with
    | some (x, y, z) => if chkX S sc cls c x = true then (match chkSs cls lc s y with
      | some ca => (match chkSs cls lc t z with
        | some cb => joinC io ca cb
        | none => none)
      | none => none) else none
    | none => none)
  | .xapp i x, a => (match wApp S sc i a with
    | some r => if (chkX S sc cls x r && decide (clA cls i = .O)) = true then some (some cls) else none
    | none => none)
  | .xset i k x, a => (match wSet S sc i a with
    | some (b, r) => if (chkX S sc cls x r && chkE S sc cls k b && decide (clA cls i = .O)) = true then some (some cls) else none
    | none => none)
  | .xexpr x, a => (match wExpr a with
    | some r => if chkX S sc cls x r = true then some (some cls) else none
    | none => none)
  | .xfor tg x body, a => (match wFor a with
    | some (t, e, b) => (match vRange1 S sc e with
      | some y => if (chkX S sc cls x y && tgB S.N sc tg t && tgF cls (ixT tg)) = true then
          (match chkSs (clsT cls tg) (some cls) body b with
          | some none => some (some cls)
          | some (some c) => if coerOk io c cls = true then some (some cls) else none
          | none => none) else none
      | none => none)
    | none => none)
  | .xforl tg x body, a => (match wFor a with
    | some (t, e, b) => if (chkX S sc cls x e && tgB S.N sc tg t && tgF cls (ixT tg)) = true then
          (match chkSs (clsT cls tg) (some cls) body b with
          | some none => some (some cls)
          | some (some c) => if coerOk io c cls = true then some (some cls) else none
          | none => none) else none
    | none => none)
  | _, _ => none
def chkSs (cls : List Cl) (lc : Option (List Cl)) : List PyI.S → List Stmt → Option (Option (List Cl))
  | [], [] => some (some cls)
  | [], _ :: _ => none
  | s :: r, l => (match frzI s with
    | some i => if (decide (i < cls.length) && decide (clA cls i = .O) && !io.contains i) = true then chkSs (cls.set i .F) lc r l else none
    | none => (match l with
      | [] => none
      | a :: as => (match chkS cls lc s a with
        | some (some c) => chkSs c lc r as
        | some none => if (r.isEmpty && as.isEmpty) = true then some none else none
        | none => none)))
end
end
section
variable {S : Stat} {cf : CF} {X : Cx} {io : List Nat} {fr : Bool}
structure CtxS (S : Stat) (cf : CF) (X : Cx) : Prop extends CtxOk S cf X where
  kind : X.env.scope.kind = .function
  fn : ∀ y, X.env.scope.names.lookup y = some .cell → X.fn y = true
  pass : PassesOwn (model X.prog X.w) X.A X.env X.xe
theorem loc_fn (C : CtxS S cf X) {x : Str} (h : locB X.env.scope x = true) : Loc X.env.scope x ∧ (X.fn x = true ∨ X.env.scope.names.lookup x = some .local) := by
  rcases loc_of h with z | z
  · exact ⟨.inl z, .inr z⟩
  · exact ⟨.inr z, .inl (C.fn x z)⟩
theorem sw_false {e : PySem.Expr} {t : Option PySem.Expr} {l : Nat} {env : PySem.Env} (h : isLc e = false) : swapsWith e t l env = pure false := by
  cases e <;> first | rfl | cases h
theorem ok_asg {i : Nat} {own : Bool} {e : E} {st : Stmt} {r : PySem.Expr} {cls : List Cl} {lc : Option (List Cl)} (C : CtxS S cf X) (h : wAsg S X.env.scope i st = some r) (s : Snd S.fds cf cls X e r) (hi : i < cls.length) (hn : io.contains i = false) (hv : (if own = true then frE S.fds e else vpos cls e) = true) :
    PS X st (tS X.K io fr cls (some (cls.set i (if own = true then .O else .F))) lc (exAsg i (evE cf e))) := by
  unfold wAsg at h
  split at h
  · rename_i x py e0 pos
    obtain ⟨h1, rfl⟩ := okIf_inv h
    rw [Bool.and_eq_true, Bool.and_eq_true, decide_eq_true_eq] at h1
    obtain ⟨⟨h1, h2⟩, h3⟩ := h1
    obtain ⟨l1, l2⟩ := loc_fn C h2
    have hN : X.N[i]? = some x := by rw [C.N]; exact h1
    by_cases hlc : isLc e0 = true
    · cases e0 with
      | ListComp elt gs scope p =>
        have h3' : (decide (X.env.scope.names.lookup x = some .local) && (py.line == p.line) && !(scope.names.any fun (n, k) => n == x && (k == .local || k == .cell)) && (match X.env.scope.kind with | .function => true | _ => false)) = true := h3
        simp only [Bool.and_eq_true, decide_eq_true_eq] at h3'
        obtain ⟨⟨⟨g1, g2⟩, g3⟩, _⟩ := h3'
        have pa := s.A rfl i x py pos hN g1 (sw_true C.kind g1 g2 (by simpa using g3))
        cases own with
        | true => exact PS.imp' pa (t_asgO hi hn)
        | false =>
          refine PS.imp' pa fun D σ H ⟨Γ, L, G, env, fl, E, hio, hx, k⟩ => ?_
          obtain ⟨d, hd, rfl⟩ := exAsg_inv hx
          refine ⟨Γ, L, G, env, d, E, hd, fun v G' H' s1 r1 => ?_⟩
          obtain ⟨G'', s2, r2⟩ := ResF.freeze E.fz s1 r1
          exact k _ rfl G'' _ H' ((E.step s2).setF r2 hi (io_ne hio hn)) s2.gg
      | _ => first | (cases hlc; done) | (cases h3; done)
    · have hsw : swapsWith e0 (some (.Name x py)) pos.line X.env = pure false := sw_false (by simpa using hlc)
      cases own with
      | true => exact PS.imp' (ps_set C.nd hN l1 (s.F hv) hsw l2) (t_asgO hi hn)
      | false => exact PS.imp' (ps_set C.nd hN l1 (s.V hv) hsw l2) (t_asgF hi hn)
  · cases h
theorem ok_asgT {is : List Nat} {e : E} {st : Stmt} {r : PySem.Expr} {cls : List Cl} {lc : Option (List Cl)} (C : CtxS S cf X) (h : wAsgT S X.env.scope is st = some r) (s : Snd S.fds cf cls X e r) (hv : vpos cls e = true) (hf : tgF cls is = true) :
    PS X st (tS X.K io fr cls (some (clsT cls (.tup is))) lc (exAsgT (.tup is) (evE cf e))) := by
  unfold wAsgT at h
  split at h
  · rename_i ts k p e0 pos
    obtain ⟨h1, rfl⟩ := okIf_inv h
    rw [Bool.and_eq_true] at h1
    have h2 : isTupE e0 = false := by simpa using h1.2
    have hg := pg_of (X := X) (sc := X.env.scope) C.N C.nd C.calm (fun y k q _ => q) C.fn h1.1
    exact s_asgT hf (s.V hv) hg (by cases e0 <;> rfl) (by cases e0 <;> first | rfl | cases h2) rfl
  · cases h
theorem ok_set {i : Nat} {k v : E} {st : Stmt} {b r : PySem.Expr} {cls : List Cl} {lc : Option (List Cl)} (C : CtxS S cf X) (h : wSet S X.env.scope i st = some (b, r)) (s : Snd S.fds cf cls X v r) (t : Snd S.fds cf cls X k b) (hv : vpos cls v = true) (hc : clA cls i = .O) :
    PS X st (tS X.K io fr cls (some cls) lc (exSetix i (evE cf k) (evE cf v))) := by
  unfold wSet at h
  split at h
  · obtain ⟨h1, h2⟩ := okIf_inv h
    cases h2
    rw [Bool.and_eq_true, Bool.and_eq_true] at h1
    obtain ⟨n1, n2, n3, n4⟩ := nm_of C.toCtxOk h1.1.1
    have h2 : isLc r = false := by simpa using h1.2
    exact s_setix (by have := C.un; omega) n1 n2 n3 n4 hc t.R h1.1.2 (s.V hv) (by cases r <;> first | rfl | cases h2)
  · cases h
theorem ok_app {i : Nat} {e : E} {st : Stmt} {r : PySem.Expr} {cls : List Cl} {lc : Option (List Cl)} (C : CtxS S cf X) (h : wApp S X.env.scope i st = some r) (s : Snd S.fds cf cls X e r) (hv : vpos cls e = true) (hc : clA cls i = .O) : PS X st (tS X.K io fr cls (some cls) lc (exApp i (evE cf e))) := by
  unfold wApp at h
  split at h
  · obtain ⟨h1, rfl⟩ := okIf_inv h
    rw [Bool.and_eq_true, Bool.and_eq_true, Bool.and_eq_true, decide_eq_true_eq] at h1
    obtain ⟨⟨⟨h1, rfl⟩, h3⟩, h4⟩ := h1
    obtain ⟨n1, n2, n3, n4⟩ := nm_of C.toCtxOk h1
    exact s_app n1 n2 n3 n4 hc (s.V hv) s.ns h3 h4
  · cases h
theorem ok_aug {i : Nat} {o : Op2} {e : E} {st : Stmt} {r : PySem.Expr} {cls : List Cl} {lc : Option (List Cl)} (C : CtxS S cf X) (h : wAug S X.env.scope i o st = some r) (s : Snd S.fds cf cls X e r) (hi : i < cls.length) (hn : io.contains i = false) : PS X st (tS X.K io fr cls (some (cls.set i .F)) lc (exAug i o (evE cf e))) := by
  unfold wAug at h
  split at h
  · rename_i x p op e0 p2
    obtain ⟨h1, rfl⟩ := okIf_inv h
    rw [Bool.and_eq_true, Bool.and_eq_true, decide_eq_true_eq, Bool.or_eq_true, Bool.and_eq_true, Bool.and_eq_true, decide_eq_true_eq, decide_eq_true_eq] at h1
    obtain ⟨⟨h1, h2⟩, h3⟩ := h1
    obtain ⟨l1, l2⟩ := loc_fn C h2
    refine s_aug ?_ (by rw [C.N]; exact h1) l1 C.nd l2 hi hn s.R
    rcases h3 with ⟨a, b⟩ | ⟨a, b⟩
    · exact .inl ⟨a, by cases op <;> first | rfl | cases b⟩
    · exact .inr ⟨a, by cases op <;> first | rfl | cases b⟩
  · cases h
theorem ok_ret {e : E} {st : Stmt} {r : PySem.Expr} {cls : List Cl} {cn lc : Option (List Cl)} (C : CtxS S cf X) (h : wRet st = some r) (hk : chkE S X.env.scope cls e r = true) (s : Snd S.fds cf cls X e r) (hv : (if fr = true then frE S.fds e || retVar io cls e else vpos cls e) = true) : PS X st (tS X.K io fr cls cn lc (exRet (evE cf e))) := by
  unfold wRet at h
  split at h
  · cases h
    cases fr with
    | false => exact s_ret (s.V hv)
    | true =>
      have hv' : (frE S.fds e || retVar io cls e) = true := hv
      rw [Bool.or_eq_true] at hv'
      rcases hv' with q | q
      · exact s_ret (s.F q)
      · unfold retVar at q
        split at q
        · rw [Bool.and_eq_true, decide_eq_true_eq] at q
          cases r with
          | Name x p =>
            obtain ⟨n1, n2, n3, n4⟩ := nm_of C.toCtxOk (show nmB S.N X.env.scope _ x = true from hk)
            exact s_retO n1 n2 n3 n4 (by simpa using q.2) q.1
          | _ => cases hk
        · cases q
  · cases h
theorem ok_xasg {i : Nat} {own : Bool} {x : XE} {st : Stmt} {r : PySem.Expr} {cls : List Cl} {lc : Option (List Cl)} (C : CtxS S cf X) (h : wAsg S X.env.scope i st = some r) (hk : chkX S X.env.scope cls x r = true) (hi : i < cls.length) (hn : io.contains i = false) (hl : isLc r = false ∨ (isCx x = true ∧ own = true)) (hv : own = true → frX S.fds x = true) :
    PS X st (tS X.K io fr cls (some (cls.set i (if own = true then .O else .F))) lc (exAsgX i (evX cf x))) := by
  have s := chkX_ok (cf := cf) x C.toCtxOk hk
  unfold wAsg at h
  split at h
  · rename_i y py e0 pos
    obtain ⟨h1, rfl⟩ := okIf_inv h
    rw [Bool.and_eq_true, Bool.and_eq_true, decide_eq_true_eq] at h1
    obtain ⟨⟨h1, h2⟩, h3⟩ := h1
    obtain ⟨l1, l2⟩ := loc_fn C h2
    by_cases hlc : isLc e0 = true
    · rcases hl with hl | ⟨hcx, rfl⟩
      · rw [hl] at hlc; cases hlc
      · cases e0 with
        | ListComp elt gs scope p =>
          have h3' : (decide (X.env.scope.names.lookup y = some .local) && (py.line == p.line) && !(scope.names.any fun (n, k) => n == y && (k == .local || k == .cell)) && (match X.env.scope.kind with | .function => true | _ => false)) = true := h3
          simp only [Bool.and_eq_true, decide_eq_true_eq] at h3'
          obtain ⟨⟨⟨g1, g2⟩, g3⟩, _⟩ := h3'
          exact PS.imp' (chkX_A hcx C.toCtxOk hk (by rw [C.N]; exact h1) g1 (sw_true C.kind g1 g2 (by simpa using g3))) (t_asgOX hi hn)
        | _ => first | (cases hlc; done) | (cases h3; done)
    · have hsw : isLc e0 = false := by simpa using hlc
      cases own with
      | true => exact PS.imp' (ps_set C.nd (by rw [C.N]; exact h1) l1 (s.F (hv rfl)) (sw_false hsw) l2) (t_asgOX hi hn)
      | false => exact PS.imp' (ps_set C.nd (by rw [C.N]; exact h1) l1 s.V (sw_false hsw) l2) (t_asgX hi hn)
  · cases h
theorem ok_xasgT {is : List Nat} {x : XE} {st : Stmt} {r : PySem.Expr} {cls : List Cl} {lc : Option (List Cl)} (C : CtxS S cf X) (h : wAsgT S X.env.scope is st = some r) (s : SndX S.fds cf cls X x r) (hf : tgF cls is = true) :
    PS X st (tS X.K io fr cls (some (clsT cls (.tup is))) lc (exAsgTX (.tup is) (evX cf x))) := by
  unfold wAsgT at h
  split at h
  · rename_i ts k p e0 pos
    obtain ⟨h1, rfl⟩ := okIf_inv h
    rw [Bool.and_eq_true] at h1
    have h2 : isTupE e0 = false := by simpa using h1.2
    have hg := pg_of (X := X) (sc := X.env.scope) C.N C.nd C.calm (fun y k q _ => q) C.fn h1.1
    exact xx_asgT hf s.V hg (by cases e0 <;> rfl) (by cases e0 <;> first | rfl | cases h2) rfl
  · cases h
theorem ok_xapp {i : Nat} {x : XE} {st : Stmt} {r : PySem.Expr} {cls : List Cl} {lc : Option (List Cl)} (C : CtxS S cf X) (h : wApp S X.env.scope i st = some r) (s : SndX S.fds cf cls X x r) (hc : clA cls i = .O) : PS X st (tS X.K io fr cls (some cls) lc (exAppX i (evX cf x))) := by
  unfold wApp at h
  split at h
  · obtain ⟨h1, rfl⟩ := okIf_inv h
    rw [Bool.and_eq_true, Bool.and_eq_true, Bool.and_eq_true, decide_eq_true_eq] at h1
    obtain ⟨⟨⟨h1, rfl⟩, h3⟩, h4⟩ := h1
    obtain ⟨n1, n2, n3, n4⟩ := nm_of C.toCtxOk h1
    exact x_app' n1 n2 n3 n4 hc s.V s.ns h3 h4
  · cases h
theorem ok_xset {i : Nat} {k : E} {x : XE} {st : Stmt} {b r : PySem.Expr} {cls : List Cl} {lc : Option (List Cl)} (C : CtxS S cf X) (h : wSet S X.env.scope i st = some (b, r)) (s : SndX S.fds cf cls X x r) (t : Snd S.fds cf cls X k b) (hc : clA cls i = .O) :
    PS X st (tS X.K io fr cls (some cls) lc (exSetX i (evE cf k) (evX cf x))) := by
  unfold wSet at h
  split at h
  · obtain ⟨h1, h2⟩ := okIf_inv h
    cases h2
    rw [Bool.and_eq_true, Bool.and_eq_true] at h1
    obtain ⟨n1, n2, n3, n4⟩ := nm_of C.toCtxOk h1.1.1
    have h2 : isLc r = false := by simpa using h1.2
    exact x_setix (by have := C.un; omega) n1 n2 n3 n4 hc t.R h1.1.2 s.V (by cases r <;> first | rfl | cases h2)
  · cases h
theorem ext_src {i : Nat} {e : E} {r : PySem.Expr} {cls : List Cl} (C : CtxS S cf X) (hk : chkE S X.env.scope cls e r = true) (q : extVar cls i e = true) : PE X r (tL X.K cls i (evE cf e)) := by
  cases e with
  | var j =>
    have q' : (decide (clA cls j = .O) && decide (j ≠ i)) = true := q
    rw [Bool.and_eq_true, decide_eq_true_eq] at q'
    cases r with
    | Name y p =>
      obtain ⟨m1, m2, m3, m4⟩ := nm_of C.toCtxOk (show nmB S.N X.env.scope j y = true from hk)
      exact tL_own m1 m2 m3 m4 q'.1
    | _ => cases hk
  | _ => cases q
theorem ok_ext {i : Nat} {e : E} {st : Stmt} {r : PySem.Expr} {cls : List Cl} {lc : Option (List Cl)} (C : CtxS S cf X) (h : wExt S X.env.scope i st = some r) (hk : chkE S X.env.scope cls e r = true) (s : Snd S.fds cf cls X e r) (hv : (frE S.fds e || extVar cls i e) = true) (hc : clA cls i = .O) : PS X st (tS X.K io fr cls (some cls) lc (exExt i (evE cf e))) := by
  unfold wExt at h
  split at h
  · obtain ⟨h1, he⟩ := okIf_inv h
    subst he
    rw [Bool.and_eq_true, Bool.and_eq_true, Bool.and_eq_true, decide_eq_true_eq] at h1
    obtain ⟨⟨⟨h1, rfl⟩, h3⟩, h4⟩ := h1
    obtain ⟨n1, n2, n3, n4⟩ := nm_of C.toCtxOk h1
    rw [Bool.or_eq_true] at hv
    rcases hv with q | q
    · exact x_ext n1 n2 n3 n4 hc (tL_new (s.F q)) s.ns h3 h4
    · exact x_ext n1 n2 n3 n4 hc (ext_src C hk q) s.ns h3 h4
  · cases h
theorem ok_clr {i : Nat} {st : Stmt} {cls : List Cl} {lc : Option (List Cl)} (C : CtxS S cf X) (h : wClr S X.env.scope i st = true) (hc : clA cls i = .O) : PS X st (tS X.K io fr cls (some cls) lc (exClr i)) := by
  unfold wClr at h
  split at h
  · simp only [Bool.and_eq_true, decide_eq_true_eq] at h
    obtain ⟨⟨⟨h1, rfl⟩, h3⟩, h4⟩ := h
    obtain ⟨n1, n2, n3, n4⟩ := nm_of C.toCtxOk h1
    exact x_clr n1 n2 n3 n4 hc h3 h4
  · cases h
theorem ok_xfor {tg : Tg} {x : XE} {st : Stmt} {t e y : PySem.Expr} {b : List Stmt} {cls : List Cl} {cb lc : Option (List Cl)} {f : PyI.Env → Option Fl} (C : CtxS S cf X) (h : wFor st = some (t, e, b)) (hr : vRange1 S X.env.scope e = some y) (s : SndX S.fds cf cls X x y) (h5 : tgB S.N X.env.scope tg t = true) (h6 : tgF cls (ixT tg) = true)
    (hb : PSs X b (tS X.K io fr (clsT cls tg) cb (some cls) f)) (hco : ∀ c, cb = some c → coerOk io c cls = true) : PS X st (tS X.K io fr cls (some cls) lc (exForX tg (rngX (evX cf x)) f)) := by
  have hg : PG X t (gOf X.K tg) := pg_of (X := X) (sc := X.env.scope) C.N C.nd C.calm (fun y k q _ => q) C.fn h5
  unfold vRange1 at hr
  split at hr
  · obtain ⟨h1, rfl⟩ := okIf_inv hr
    obtain ⟨rfl, b2, b3, b4⟩ := bl_of C.toCtxOk h1
    unfold wFor at h
    split at h
    · obtain ⟨hns, hq⟩ := okIf_inv h
      cases hq
      exact x_for' C.pass C.calm (x_range b2 b3 s.V s.ns) hg hb (folded_of hns) h6 hco
    · cases h
  · cases hr
theorem ok_xforl {tg : Tg} {x : XE} {st : Stmt} {t e : PySem.Expr} {b : List Stmt} {cls : List Cl} {cb lc : Option (List Cl)} {f : PyI.Env → Option Fl} (C : CtxS S cf X) (h : wFor st = some (t, e, b)) (s : SndX S.fds cf cls X x e) (h5 : tgB S.N X.env.scope tg t = true) (h6 : tgF cls (ixT tg) = true)
    (hb : PSs X b (tS X.K io fr (clsT cls tg) cb (some cls) f)) (hco : ∀ c, cb = some c → coerOk io c cls = true) : PS X st (tS X.K io fr cls (some cls) lc (exForX tg (ofX (evX cf x)) f)) := by
  have hg : PG X t (gOf X.K tg) := pg_of (X := X) (sc := X.env.scope) C.N C.nd C.calm (fun y k q _ => q) C.fn h5
  unfold wFor at h
  split at h
  · obtain ⟨hns, hq⟩ := okIf_inv h
    cases hq
    exact x_for' C.pass C.calm (x_of s.V) hg hb (folded_of hns) h6 hco
  · cases h
end
end PyI
end

section
set_option maxRecDepth 100000
set_option maxHeartbeats 4000000
namespace PyI
open PySem PySem.Spec PyProof.Rows L2
section
variable {S : Stat} {cf : CF} {X : Cx} {io : List Nat} {fr : Bool}
theorem join_ok {ca cb cm lc : Option (List Cl)} (h : joinC io ca cb = some cm) {Γ : Gh} {L : List Addr} {G : Hp} {D : Ends} {fl : Fl} (hio : Γ.io.map (·.1) = io) (k : EndsOk X.K fr cm lc Γ L G D fl) : EndsOk X.K fr ca lc Γ L G D fl ∧ EndsOk X.K fr cb lc Γ L G D fl := by
  cases ca with
  | none => cases h; exact ⟨k.none', k⟩
  | some a =>
    cases cb with
    | none => cases h; exact ⟨k, k.none'⟩
    | some b =>
      unfold joinC at h
      simp only [] at h
      split at h
      · rename_i hc
        cases h
        rw [Bool.and_eq_true] at hc
        exact ⟨k.coer hio fun c q => by cases q; exact hc.1, k.coer hio fun c q => by cases q; exact hc.2⟩
      · cases h
theorem srcB_of {m : Bool} {e : E} {x : PySem.Expr} {cls : List Cl} (C : CtxS S cf X) (h : srcV cls e = true) (s : Snd S.fds cf cls X e x) (hk : chkE S X.env.scope cls e x = true) : PE X x (tSrc X.K false cls (evE cf e)) := by
  cases e with
  | var i =>
    have hc : clA cls i ≠ .O := of_decide_eq_true h
    cases x with
    | Name y p =>
      obtain ⟨n1, n2, n3, n4⟩ := nm_of C.toCtxOk (show nmB S.N X.env.scope i y = true from hk)
      exact src_B n1 n2 n3 n4 hc
    | _ => cases hk
  | _ => exact src_V (s.V h)
/-- arguments with their checks -/
theorem chkEs_mem {es : List E} {xs : List PySem.Expr} {cls : List Cl} (C : CtxS S cf X) (h : chkEs S X.env.scope cls es xs = true) (hs : es.all (srcV cls) = true) : ∀ e x, e ∈ es → Snd S.fds cf cls X e x → (∃ i : Nat, es[i]? = some e ∧ xs[i]? = some x) → PE X x (tSrc X.K false cls (evE cf e)) := by
  intro e x hm s ⟨i, h1, h2⟩
  refine srcB_of (m := false) C (List.all_eq_true.mp hs e hm) s ?_
  clear hs hm s
  induction es generalizing xs i with
  | nil => simp at h1
  | cons e' es ih =>
    cases xs with
    | nil => cases h
    | cons x' xs =>
      have h' : (chkE S X.env.scope cls e' x' && chkEs S X.env.scope cls es xs) = true := h
      rw [Bool.and_eq_true] at h'
      cases i with
      | zero => simp at h1 h2; subst h1 h2; exact h'.1
      | succ i => exact ih h'.2 i (by simpa using h1) (by simpa using h2)
/-- arguments, with what a walk asks of its sources -/
inductive SndI (S : Stat) (cf : CF) (cls : List Cl) (X : Cx) (nd : Bool) : List E → List PySem.Expr → Prop
  | nil : SndI S cf cls X nd [] []
  | cons {e : E} {a : PySem.Expr} {es : List E} {as : List PySem.Expr} : Snd S.fds cf cls X e a → (nd = true → PE X a (tSrc X.K false cls (evE cf e))) → SndI S cf cls X nd es as → SndI S cf cls X nd (e :: es) (a :: as)
theorem sndI_of {es : List E} {xs : List PySem.Expr} {cls : List Cl} {nd : Bool} (C : CtxS S cf X) (h : chkEs S X.env.scope cls es xs = true) (hs : nd = true → es.all (srcV cls) = true) : SndI S cf cls X nd es xs := by
  induction es generalizing xs with
  | nil =>
    cases xs with
    | nil => exact .nil
    | cons _ _ => cases h
  | cons e es ih =>
    cases xs with
    | nil => cases h
    | cons x xs =>
      have h' : (chkE S X.env.scope cls e x && chkEs S X.env.scope cls es xs) = true := h
      rw [Bool.and_eq_true] at h'
      have s := chkE_ok e C.toCtxOk h'.1
      refine .cons s (fun q => ?_) (ih h'.2 fun q => ?_)
      · exact srcB_of (m := false) C (List.all_eq_true.mp (hs q) e List.mem_cons_self) s h'.1
      · rw [List.all_eq_true]
        exact fun z hz => List.all_eq_true.mp (hs q) z (List.mem_cons_of_mem _ hz)
theorem forIt_of {tg' iter : PySem.Expr} {cls : List Cl} {op : ItOp} {src : List E} {xs : List PySem.Expr} (C : CtxS S cf X) (h : vIter S X.env.scope op iter = some xs) (hd : ioD op = false) (s : SndI S cf cls X (srcNeed op) src xs) (hpr : ioPr op = true → ∃ elts k p, tg' = .Tuple elts k p) :
    PI X tg' iter (tIt X.K (ioPr op) false cls (evSrc cf op src)) := by
  cases op with
  | of =>
    obtain ⟨h1, rfl⟩ := okIf_inv (show okIf (notSet iter) [iter] = some xs from h)
    cases s with
    | cons s q t => cases t; rw [evSrc1]; exact i_of (q rfl)
  | range =>
    simp only [vIter] at h
    split at h
    · obtain ⟨h1, rfl⟩ := okIf_inv h
      obtain ⟨rfl, b2, b3, b4⟩ := bl_of C.toCtxOk h1
      cases s with
      | cons s _ t => cases t; rw [evSrc1]; exact i_range1 b2 b3 s.R s.ns
    · obtain ⟨h1, rfl⟩ := okIf_inv h
      obtain ⟨rfl, b2, b3, b4⟩ := bl_of C.toCtxOk h1
      cases s with
      | cons s _ t =>
        cases t with
        | cons t _ u => cases u; rw [evSrc2]; exact i_range2 b2 b3 s.R s.ns t.R t.ns
    · obtain ⟨h1, rfl⟩ := okIf_inv h
      obtain ⟨rfl, b2, b3, b4⟩ := bl_of C.toCtxOk h1
      cases s with
      | cons s _ t =>
        cases t with
        | cons t _ u =>
          cases u with
          | cons u _ w => cases w; rw [evSrc3]; exact i_range3 b2 b3 s.R s.ns t.R t.ns u.R u.ns
    · cases h
  | enum =>
    obtain ⟨elts, k, p, rfl⟩ := hpr rfl
    simp only [vIter] at h
    split at h
    · obtain ⟨h1, rfl⟩ := okIf_inv h
      obtain ⟨rfl, b2, b3, b4⟩ := bl_of C.toCtxOk h1
      cases s with
      | cons s q t => cases t; rw [evSrc1]; exact i_enum b2 b3 (q rfl) s.ns
    · cases h
  | rev =>
    simp only [vIter] at h
    split at h
    · obtain ⟨h1, rfl⟩ := okIf_inv h
      obtain ⟨rfl, b2, b3, b4⟩ := bl_of C.toCtxOk h1
      cases s with
      | cons s q t => cases t; rw [evSrc1]; exact i_rev b2 b3 (q rfl) s.ns
    · cases h
  | zip =>
    obtain ⟨elts, k, p, rfl⟩ := hpr rfl
    simp only [vIter] at h
    split at h
    · obtain ⟨h1, rfl⟩ := okIf_inv h
      obtain ⟨rfl, b2, b3, b4⟩ := bl_of C.toCtxOk h1
      cases s with
      | cons s q t =>
        cases t with
        | cons t q' u => cases u; rw [evSrc2]; exact i_zip b2 b3 (q rfl) s.ns (q' rfl) t.ns
    · cases h
  | _ => cases hd
theorem exFor_eq {tg : Tg} {op : ItOp} {src : List E} {body : List PyI.S} : (fun env => execS cf env (.for_ tg op src body)) = exFor tg (evSrc cf op src) fun env => execSs cf env body := by
  funext env
  unfold exFor evSrc
  rw [execS]
  cases evalEs cf env src with
  | none => rfl
  | some ss =>
    simp only []
    cases iterD op ss with
    | none => rfl
    | some xs => rfl
theorem exForX_eq {tg : Tg} {x : XE} {body : List PyI.S} : (fun env => execS cf env (.xfor tg x body)) = exForX tg (rngX (evX cf x)) fun env => execSs cf env body := by
  funext env
  unfold exForX rngX evX
  rw [execS]
  cases evalX cf x env with
  | none => rfl
  | some q =>
    obtain ⟨y, e1⟩ := q
    simp only []
    cases iterD .range [y] with
    | none => rfl
    | some xs => rfl
theorem exForL_eq {tg : Tg} {x : XE} {body : List PyI.S} : (fun env => execS cf env (.xforl tg x body)) = exForX tg (ofX (evX cf x)) fun env => execSs cf env body := by
  funext env
  unfold exForX ofX evX
  rw [execS]
  cases evalX cf x env with
  | none => rfl
  | some q =>
    obtain ⟨y, e1⟩ := q
    simp only []
    cases iterD .of [y] with
    | none => rfl
    | some xs => rfl
theorem ok_for {tg : Tg} {op : ItOp} {src : List E} {st : Stmt} {t e : PySem.Expr} {b : List Stmt} {xs : List PySem.Expr} {cls : List Cl} {cb lc : Option (List Cl)} {f : PyI.Env → Option Fl} (C : CtxS S cf X) (h : wFor st = some (t, e, b)) (hi : vIter S X.env.scope op e = some xs) (hk : chkEs S X.env.scope cls src xs = true)
    (h2 : ioPr op = true → isTupTg tg = true) (h3 : ioD op = true → isVarN cls src = true) (h4 : ioD op = false → srcNeed op = true → src.all (srcV cls) = true) (h5 : tgB S.N X.env.scope tg t = true) (h6 : tgF cls (ixT tg) = true)
    (hb : PSs X b (tS X.K io fr (clsT cls tg) cb (some cls) f)) (hco : ∀ c, cb = some c → coerOk io c cls = true) : PS X st (tS X.K io fr cls (some cls) lc (exFor tg (evSrc cf op src) f)) := by
  have hpr : ioPr op = true → ∃ elts k p, t = .Tuple elts k p := fun q => tup_of h5 (h2 q)
  have hg : PG X t (gOf X.K tg) := pg_of (X := X) (sc := X.env.scope) C.N C.nd C.calm (fun y k q _ => q) C.fn h5
  unfold wFor at h
  split at h
  · obtain ⟨hns, hq⟩ := okIf_inv h
    cases hq
    by_cases hd : ioD op = true
    · have hvn := h3 hd
      unfold isVarN at hvn
      split at hvn
      · rename_i i
        cases xs with
        | nil => cases hk
        | cons x r =>
          cases r with
          | cons _ _ =>
            have hk' : (chkE S X.env.scope cls (.var i) x && chkEs S X.env.scope cls [] (_ :: _)) = true := hk
            rw [Bool.and_eq_true] at hk'
            cases hk'.2
          | nil =>
            have hk' : (chkE S X.env.scope cls (.var i) x && chkEs S X.env.scope cls [] []) = true := hk
            rw [Bool.and_eq_true] at hk'
            rw [evSrcD hd]
            exact s_forD C.pass C.calm (itD_of C.toCtxOk hi hd hk'.1 hpr) hg hb (folded_of hns) h2 h6 hco (of_decide_eq_true hvn)
      · cases hvn
    · have hd' : ioD op = false := by simpa using hd
      exact s_for C.pass C.calm (forIt_of C hi hd' (sndI_of C hk (h4 hd')) hpr) hg hb (folded_of hns) h2 h6 hco
  · cases h
mutual
theorem chkS_ok : ∀ (s : PyI.S) {cls : List Cl} {lc cn : Option (List Cl)} {st : Stmt}, CtxS S cf X → chkS S io fr X.env.scope cls lc s st = some cn → PS X st (tS X.K io fr cls cn lc fun env => execS cf env s)
  | .asg i own e, cls, lc, cn, st, C, h => by
    rw [chkS] at h
    split at h
    · rename_i hw
      obtain ⟨hc, e0⟩ := ifs h
      cases e0
      simp only [Bool.and_eq_true, decide_eq_true_eq, Bool.not_eq_true'] at hc
      exact ok_asg C hw (chkE_ok e C.toCtxOk hc.1.1.1) hc.1.1.2 hc.1.2 hc.2
    · cases h
  | .asgT is e, cls, lc, cn, st, C, h => by
    rw [chkS] at h
    split at h
    · rename_i hw
      obtain ⟨hc, e0⟩ := ifs h
      cases e0
      simp only [Bool.and_eq_true] at hc
      exact ok_asgT C hw (chkE_ok e C.toCtxOk hc.1.1) hc.1.2 hc.2
    · cases h
  | .setix i k v, cls, lc, cn, st, C, h => by
    rw [chkS] at h
    split at h
    · rename_i hw
      obtain ⟨hc, e0⟩ := ifs h
      cases e0
      simp only [Bool.and_eq_true, decide_eq_true_eq] at hc
      exact ok_set C hw (chkE_ok v C.toCtxOk hc.1.1.1) (chkE_ok k C.toCtxOk hc.1.1.2) hc.1.2 hc.2
    · cases h
  | .app i e, cls, lc, cn, st, C, h => by
    rw [chkS] at h
    split at h
    · rename_i hw
      obtain ⟨hc, e0⟩ := ifs h
      cases e0
      simp only [Bool.and_eq_true, decide_eq_true_eq] at hc
      exact ok_app C hw (chkE_ok e C.toCtxOk hc.1.1) hc.1.2 hc.2
    · cases h
  | .aug i o e, cls, lc, cn, st, C, h => by
    rw [chkS] at h
    split at h
    · rename_i hw
      obtain ⟨hc, e0⟩ := ifs h
      cases e0
      simp only [Bool.and_eq_true, decide_eq_true_eq, Bool.not_eq_true'] at hc
      exact ok_aug C hw (chkE_ok e C.toCtxOk hc.1.1) hc.1.2 hc.2
    · cases h
  | .ret e, cls, lc, cn, st, C, h => by
    rw [chkS] at h
    split at h
    · rename_i hw
      obtain ⟨hc, e0⟩ := ifs h
      cases e0
      rw [Bool.and_eq_true] at hc
      exact ok_ret C hw hc.1 (chkE_ok e C.toCtxOk hc.1) hc.2
    · cases h
  | .retN, cls, lc, cn, st, C, h => by
    rw [chkS] at h
    split at h
    · rename_i hw
      cases h
      unfold wRetN at hw
      split at hw
      · exact s_retN
      · cases hw
    · cases h
  | .iff c s t, cls, lc, cn, st, C, h => by
    rw [chkS] at h
    split at h
    · split at h
      · split at h
        · split at h
          · rename_i x y z hw hc _ ca ha _ cb hb
            unfold wIf at hw
            split at hw
            · obtain ⟨h1, h2⟩ := okIf_inv hw
              cases h2
              exact s_if ((chkE_ok c C.toCtxOk hc).T (by simpa using h1)) (chkSs_ok s C ha) (chkSs_ok t C hb) fun hio k => join_ok h hio k
            · cases hw
          · cases h
        · cases h
      · cases h
    · cases h
  | .for_ tg op src body, cls, lc, cn, st, C, h => by
    rw [chkS] at h
    split at h
    · split at h
      · split at h
        · rename_i t e b hw _ xs hi hc
          simp only [Bool.and_eq_true, Bool.or_eq_true, Bool.not_eq_true'] at hc
          obtain ⟨⟨⟨⟨⟨g1, g2⟩, g3⟩, g4⟩, g5⟩, g6⟩ := hc
          have k2 : ioPr op = true → isTupTg tg = true := fun q => by
            rcases g2 with z | z
            · rw [z] at q; cases q
            · exact z
          have k3 : ioD op = true → isVarN cls src = true := fun q => by
            rcases g3 with z | z
            · rw [z] at q; cases q
            · exact z
          have k4 : ioD op = false → srcNeed op = true → src.all (srcV cls) = true := fun q q' => by
            rcases g4 with (z | z) | z
            · rw [z] at q; cases q
            · rw [z] at q'; cases q'
            · exact z
          split at h
          · rename_i hb
            cases h
            rw [exFor_eq]; exact ok_for C hw hi g1 k2 k3 k4 g5 g6 (chkSs_ok body C hb) fun c q => by cases q
          · rename_i c hb
            split at h
            · rename_i hco
              cases h
              rw [exFor_eq]; exact ok_for C hw hi g1 k2 k3 k4 g5 g6 (chkSs_ok body C hb) fun c q => by cases q; exact hco
            · cases h
          · cases h
        · cases h
      · cases h
    · cases h
  | .while_ c body, cls, lc, cn, st, C, h => by
    rw [chkS] at h
    split at h
    · split at h
      · rename_i x b hw hc
        have fin : ∀ {cb : Option (List Cl)}, chkSs S io fr X.env.scope cls (some cls) body b = some cb → (∀ c, cb = some c → coerOk io c cls = true) → PS X st (tS X.K io fr cls (some cls) lc fun env => execS cf env (.while_ c body)) := by
          intro cb hb hco
          unfold wWhile at hw
          split at hw
          · obtain ⟨h1, h2⟩ := okIf_inv hw
            cases h2
            exact s_while C.pass ((chkE_ok c C.toCtxOk hc).T (by simpa using h1)) (chkSs_ok body C hb) hco
          · cases hw
        split at h
        · rename_i hb
          cases h
          exact fin hb fun c q => by cases q
        · rename_i c hb
          split at h
          · rename_i hco
            cases h
            exact fin hb fun c q => by cases q; exact hco
          · cases h
        · cases h
      · cases h
    · cases h
  | .expr e, cls, lc, cn, st, C, h => by
    rw [chkS] at h
    split at h
    · split at h
      · rename_i r hw hc
        cases h
        unfold wExpr at hw
        split at hw
        · obtain ⟨h1, h2⟩ := okIf_inv hw
          cases h2
          exact s_expr (chkE_ok e C.toCtxOk hc).R (sw_false (by simpa using h1))
        · cases hw
      · cases h
    · cases h
  | .pass, cls, lc, cn, st, C, h => by
    rw [chkS] at h
    split at h
    · rename_i hw
      cases h
      unfold wPass at hw
      split at hw
      · exact s_pass
      · cases hw
    · cases h
  | .brk, cls, lc, cn, st, C, h => by
    cases lc with
    | none => cases h
    | some c =>
      obtain ⟨hw, e0⟩ := ifs (show (if (wBrk st && coerOk io cls c) = true then some none else none) = some cn from h)
      cases e0
      rw [Bool.and_eq_true] at hw
      have hw1 := hw.1
      unfold wBrk at hw1
      split at hw1
      · exact s_brk hw.2
      · cases hw1
  | .cnt, cls, lc, cn, st, C, h => by
    cases lc with
    | none => cases h
    | some c =>
      obtain ⟨hw, e0⟩ := ifs (show (if (wCnt st && coerOk io cls c) = true then some none else none) = some cn from h)
      cases e0
      rw [Bool.and_eq_true] at hw
      have hw1 := hw.1
      unfold wCnt at hw1
      split at hw1
      · exact s_cnt hw.2
      · cases hw1
  | .pop _ _, _, _, _, _, _, h => by cases h
  | .callpop _ _ _, _, _, _, _, _, h => by cases h
  | .ext i e, cls, lc, cn, st, C, h => by
    rw [chkS] at h
    split at h
    · rename_i hw
      obtain ⟨hc, e0⟩ := ifs h
      cases e0
      simp only [Bool.and_eq_true, decide_eq_true_eq] at hc
      exact ok_ext C hw hc.1.1 (chkE_ok e C.toCtxOk hc.1.1) hc.1.2 hc.2
    · cases h
  | .clr i, cls, lc, cn, st, C, h => by
    rw [chkS] at h
    obtain ⟨hc, e0⟩ := ifs h
    cases e0
    rw [Bool.and_eq_true, decide_eq_true_eq] at hc
    exact ok_clr C hc.1 hc.2
  | .xasg i own x, cls, lc, cn, st, C, h => by
    rw [chkS] at h
    split at h
    · rename_i hw
      obtain ⟨hc, e0⟩ := ifs h
      cases e0
      simp only [Bool.and_eq_true, Bool.or_eq_true, decide_eq_true_eq, Bool.not_eq_true'] at hc
      exact ok_xasg C hw hc.1.1.1.1 hc.1.1.1.2 hc.1.1.2 hc.1.2 (fun q => by rw [q] at hc; simpa using hc.2)
    · cases h
  | .xasgT is x, cls, lc, cn, st, C, h => by
    rw [chkS] at h
    split at h
    · rename_i hw
      obtain ⟨hc, e0⟩ := ifs h
      cases e0
      rw [Bool.and_eq_true] at hc
      exact ok_xasgT C hw (chkX_ok x C.toCtxOk hc.1) hc.2
    · cases h
  | .xret x, cls, lc, cn, st, C, h => by
    rw [chkS] at h
    split at h
    · rename_i r hw
      obtain ⟨hc, e0⟩ := ifs h
      cases e0
      rw [Bool.and_eq_true, Bool.not_eq_true'] at hc
      obtain ⟨hc1, hc2⟩ := hc
      subst hc2
      unfold wRet at hw
      split at hw
      · cases hw
        exact x_ret' (chkX_ok x C.toCtxOk hc1).V
      · cases hw
    · cases h
  | .xif c s t, cls, lc, cn, st, C, h => by
    rw [chkS] at h
    split at h
    · split at h
      · split at h
        · split at h
          · rename_i x y z hw hc _ ca ha _ cb hb
            unfold wIf at hw
            split at hw
            · obtain ⟨h1, h2⟩ := okIf_inv hw
              cases h2
              exact x_if' ((chkX_ok c C.toCtxOk hc).T (by simpa using h1)) (chkSs_ok s C ha) (chkSs_ok t C hb) fun hio k => join_ok h hio k
            · cases hw
          · cases h
        · cases h
      · cases h
    · cases h
  | .xapp i x, cls, lc, cn, st, C, h => by
    rw [chkS] at h
    split at h
    · rename_i hw
      obtain ⟨hc, e0⟩ := ifs h
      cases e0
      rw [Bool.and_eq_true, decide_eq_true_eq] at hc
      exact ok_xapp C hw (chkX_ok x C.toCtxOk hc.1) hc.2
    · cases h
  | .xset i k x, cls, lc, cn, st, C, h => by
    rw [chkS] at h
    split at h
    · rename_i hw
      obtain ⟨hc, e0⟩ := ifs h
      cases e0
      simp only [Bool.and_eq_true, decide_eq_true_eq] at hc
      exact ok_xset C hw (chkX_ok x C.toCtxOk hc.1.1) (chkE_ok k C.toCtxOk hc.1.2) hc.2
    · cases h
  | .xexpr x, cls, lc, cn, st, C, h => by
    rw [chkS] at h
    split at h
    · split at h
      · rename_i r hw hc
        cases h
        unfold wExpr at hw
        split at hw
        · obtain ⟨h1, h2⟩ := okIf_inv hw
          cases h2
          exact x_expr (chkX_ok x C.toCtxOk hc).V (sw_false (by simpa using h1))
        · cases hw
      · cases h
    · cases h
  | .xfor tg x body, cls, lc, cn, st, C, h => by
    rw [chkS] at h
    split at h
    · split at h
      · split at h
        · rename_i t e b hw _ y hr hc
          simp only [Bool.and_eq_true] at hc
          obtain ⟨⟨g1, g2⟩, g3⟩ := hc
          have fin : ∀ {cb : Option (List Cl)}, chkSs S io fr X.env.scope (clsT cls tg) (some cls) body b = some cb → (∀ c, cb = some c → coerOk io c cls = true) → PS X st (tS X.K io fr cls (some cls) lc fun env => execS cf env (.xfor tg x body)) := by
            intro cb hb hco
            rw [exForX_eq]
            exact ok_xfor C hw hr (chkX_ok x C.toCtxOk g1) g2 g3 (chkSs_ok body C hb) hco
          split at h
          · rename_i hb
            cases h
            exact fin hb fun c q => by cases q
          · rename_i c hb
            split at h
            · rename_i hco
              cases h
              exact fin hb fun c q => by cases q; exact hco
            · cases h
          · cases h
        · cases h
      · cases h
    · cases h
  | .xforl tg x body, cls, lc, cn, st, C, h => by
    rw [chkS] at h
    split at h
    · split at h
      · rename_i t e b hw hc
        simp only [Bool.and_eq_true] at hc
        obtain ⟨⟨g1, g2⟩, g3⟩ := hc
        have fin : ∀ {cb : Option (List Cl)}, chkSs S io fr X.env.scope (clsT cls tg) (some cls) body b = some cb → (∀ c, cb = some c → coerOk io c cls = true) → PS X st (tS X.K io fr cls (some cls) lc fun env => execS cf env (.xforl tg x body)) := by
          intro cb hb hco
          rw [exForL_eq]
          exact ok_xforl C hw (chkX_ok x C.toCtxOk g1) g2 g3 (chkSs_ok body C hb) hco
        split at h
        · rename_i hb
          cases h
          exact fin hb fun c q => by cases q
        · rename_i c hb
          split at h
          · rename_i hco
            cases h
            exact fin hb fun c q => by cases q; exact hco
          · cases h
        · cases h
      · cases h
    · cases h
  | .callio _ _ _ _, _, _, _, _, _, h => by cases h
  | .retio _ _ _, _, _, _, _, _, h => by cases h
  | .frz _, _, _, _, _, _, h => by cases h
theorem chkSs_ok : ∀ (l : List PyI.S) {cls : List Cl} {lc cn : Option (List Cl)} {sts : List Stmt}, CtxS S cf X → chkSs S io fr X.env.scope cls lc l sts = some cn → PSs X sts (tS X.K io fr cls cn lc fun env => execSs cf env l)
  | [], cls, lc, cn, [], C, h => by cases h; exact s_nilS
  | [], cls, lc, cn, _ :: _, C, h => by cases h
  | s :: r, cls, lc, cn, sts, C, h => by
    unfold chkSs at h
    split at h
    · rename_i i hs
      split at h
      · rename_i hc
        simp only [Bool.and_eq_true, decide_eq_true_eq, Bool.not_eq_true'] at hc
        unfold frzI at hs
        split at hs
        · cases hs
          exact s_frz hc.1.1 hc.1.2 hc.2 (chkSs_ok r C h)
        · cases hs
      · cases h
    · cases sts with
      | nil => cases h
      | cons a as =>
        simp only [] at h
        split at h
        · rename_i c hs
          exact s_seq (chkS_ok s C hs) (chkSs_ok r C h)
        · rename_i hs
          split at h
          · rename_i he
            cases h
            rw [Bool.and_eq_true, List.isEmpty_iff, List.isEmpty_iff] at he
            obtain ⟨rfl, rfl⟩ := he
            exact s_last (chkS_ok s C hs)
          · cases h
        · cases h
end
end
end PyI
end

section
set_option maxRecDepth 100000
set_option maxHeartbeats 4000000
namespace PyI
open PySem PySem.Spec PyProof.Rows L2
def cls0 (fd : FDef) : List Cl := fd.cls ++ List.replicate (fd.N.length - fd.ps.length) .F
def posO : Nat → List Cl → List Nat
  | _, [] => []
  | k, c :: cs => if c = .O then k :: posO (k + 1) cs else posO (k + 1) cs
theorem posO_mem : ∀ {cs : List Cl} {k j : Nat}, j ∈ posO k cs → k ≤ j ∧ clA cs (j - k) = .O
  | c :: cs, k, j, h => by
    rw [posO] at h
    split at h
    · rename_i hc
      rcases List.mem_cons.mp h with rfl | h
      · exact ⟨Nat.le_refl _, by rw [Nat.sub_self]; simp [clA, hc]⟩
      · obtain ⟨h1, h2⟩ := posO_mem h
        refine ⟨by omega, ?_⟩
        have e : j - k = (j - (k + 1)) + 1 := by omega
        rw [e]
        simpa [clA] using h2
    · obtain ⟨h1, h2⟩ := posO_mem h
      refine ⟨by omega, ?_⟩
      have e : j - k = (j - (k + 1)) + 1 := by omega
      rw [e]
      simpa [clA] using h2
theorem posO_nd : ∀ (cs : List Cl) (k : Nat), (posO k cs).Nodup
  | [], _ => List.nodup_nil
  | c :: cs, k => by
    rw [posO]
    split
    · refine List.nodup_cons.mpr ⟨fun h => ?_, posO_nd cs (k + 1)⟩
      have := (posO_mem h).1
      omega
    · exact posO_nd cs (k + 1)
/-- the static look at a def -/
def chkDef (S : Stat) (fd : FDef) (body : List Stmt) (sc : Scope) : Bool :=
  decide (fd.cls.length = fd.ps.length) && decide (fd.io = posO 0 fd.cls) && true && decide (fd.ps.length ≤ fd.N.length) && (chkSs { S with N := fd.N } fd.io fd.fresh sc (cls0 fd) none fd.body body).isSome
structure DefOk (K : PySem.W.Frag) (mg : Str → Option Value) (S : Stat) (fd : FDef) : Prop where
  ex : ∃ (x qual : Str) (params : Arguments) (body : List Stmt) (scope : Scope) (dvs : List V) (kws : List (Str × V)) (a : Addr) (fdt : FuncData),
    FunD K x qual params body scope dvs kws a fdt ∧ mg fd.name = some (.ref a) ∧ FnScope fd.N fd.ps scope ∧ chkDef S fd body scope = true ∧
    ∀ n, n ≤ fd.ps.length → fd.ps.length ≤ n + fd.dfl.length → ∃ ds dvs, Binds K fdt fd.ps ds ∧ Vals dvs ds ∧ RepL K (fun _ => none) dvs (dflTo fd n)
structure TopOk (K : PySem.W.Frag) (mg : Str → Option Value) (S : Stat) : Prop where
  blt : ∀ x ∈ S.blt, mg x = none
  cst : ∀ p ∈ S.consts, ∃ v u, mg p.1 = some u ∧ RelV v u ∧ Rep K (fun _ => none) v p.2
  def_ : ∀ (f : Nat) (fd : FDef), S.fds[f]? = some fd → DefOk K mg S fd
section
variable {P : Program} {w : World} {K : PySem.W.Frag} {mg : Str → Option Value} {base : Heap} {S : Stat}
theorem drop_full {α : Type} (l : List α) : l.drop l.length = [] := by simp
theorem callF_dfl {fds : List FDef} {n f : Nat} {fd : FDef} (hf : fds[f]? = some fd) {ds : List D} (h1 : ds.length ≤ fd.ps.length) (h2 : fd.ps.length ≤ ds.length + fd.dfl.length) : callF fds n f ds = callF fds n f (ds ++ dflTo fd ds.length) := by
  cases n with
  | zero => rfl
  | succ n =>
    have hl : (ds ++ dflTo fd ds.length).length = fd.ps.length := by unfold dflTo; rw [List.length_append, List.length_drop]; omega
    have e : fill fd (ds ++ dflTo fd ds.length) = fill fd ds := by
      have : fill fd (ds ++ dflTo fd ds.length) = (ds ++ dflTo fd ds.length) ++ fd.dfl.drop (fd.dfl.length - (fd.ps.length - (ds ++ dflTo fd ds.length).length)) := rfl
      rw [this, hl, Nat.sub_self, Nat.sub_zero, drop_full, List.append_nil]
      rfl
    show (match fds[f]? with | none => none | some fd => runD (callF fds n) fd (fill fd ds)) = (match fds[f]? with | none => none | some fd' => runD (callF fds n) fd' (fill fd' (ds ++ dflTo fd ds.length)))
    rw [hf]
    simp only []
    rw [e]
theorem callF_run {fds : List FDef} {n f : Nat} {fd : FDef} (hf : fds[f]? = some fd) {ds : List D} (hl : ds.length = fd.ps.length) {d : D} {outs : List D} (hc : callF fds (n + 1) f ds = some (d, outs)) :
    ∃ fl, execSs (callF fds n) (ds.map some ++ List.replicate (fd.N.length - fd.ps.length) none) fd.body = some fl ∧ ((∃ e, fl = .nxt e ∧ d = .non ∧ ioOut e fd.io = some outs) ∨ ∃ e, fl = .ret d e ∧ ioOut e fd.io = some outs) := by
  have hc' : (match fds[f]? with | none => none | some fd => runD (callF fds n) fd (fill fd ds)) = some (d, outs) := hc
  rw [hf] at hc'
  simp only [] at hc'
  have e : fill fd ds = ds := by
    unfold fill
    rw [hl, Nat.sub_self, Nat.sub_zero, drop_full, List.append_nil]
  rw [e] at hc'
  unfold runD at hc'
  rw [if_pos hl] at hc'
  clear hc
  have hc := hc'
  split at hc
  · rename_i d' env hx
    obtain ⟨o, h1, h2⟩ := map_some hc
    cases h2
    exact ⟨_, hx, .inr ⟨env, rfl, h1⟩⟩
  · rename_i env hx
    obtain ⟨o, h1, h2⟩ := map_some hc
    cases h2
    exact ⟨_, hx, .inl ⟨env, rfl, rfl, h1⟩⟩
  · cases hc
theorem clA_app {cs : List Cl} {n i : Nat} (h : i < cs.length) : clA (cs ++ List.replicate n .F) i = clA cs i := by
  unfold clA
  rw [List.getD_eq_getElem?_getD, List.getD_eq_getElem?_getD, List.getElem?_append_left h]
/-- a frame at its entry -/
theorem pair_fst {ia : List (Nat × Addr)} (nd : (ia.map (·.1)).Nodup) {i : Nat} {a b : Addr} (h1 : (i, a) ∈ ia) (h2 : (i, b) ∈ ia) : a = b := by
  induction ia with
  | nil => cases h1
  | cons p r ih =>
    rw [List.map_cons, List.nodup_cons] at nd
    rcases List.mem_cons.mp h1 with e1 | h1
    · rcases List.mem_cons.mp h2 with e2 | h2
      · rw [← e1] at e2; exact ((Prod.mk.inj e2).2).symm
      · exact absurd (by rw [← e1]; exact List.mem_map_of_mem (f := (·.1)) h2) nd.1
    · rcases List.mem_cons.mp h2 with e2 | h2
      · exact absurd (by rw [← e2]; exact List.mem_map_of_mem (f := (·.1)) h1) nd.1
      · exact ih nd.2 h1 h2
theorem pair_snd {ia : List (Nat × Addr)} (nd : (ia.map (·.2)).Nodup) {i j : Nat} {a : Addr} (h1 : (i, a) ∈ ia) (h2 : (j, a) ∈ ia) : i = j := by
  induction ia with
  | nil => cases h1
  | cons p r ih =>
    rw [List.map_cons, List.nodup_cons] at nd
    rcases List.mem_cons.mp h1 with e1 | h1
    · rcases List.mem_cons.mp h2 with e2 | h2
      · rw [← e1] at e2; exact ((Prod.mk.inj e2).1).symm
      · exact absurd (by rw [← e1]; exact List.mem_map_of_mem (f := (·.2)) h2) nd.1
    · rcases List.mem_cons.mp h2 with e2 | h2
      · exact absurd (by rw [← e2]; exact List.mem_map_of_mem (f := (·.2)) h1) nd.1
      · exact ih nd.2 h1 h2
theorem env_start {fd : FDef} {L : List Addr} {G H : Hp} {vs : List V} {ds : List D} {ia : List (Nat × Addr)} (fz : Fz L G H) (A : ArgsOk K G H fd vs ds ia) (hc : fd.cls.length = fd.ps.length) (hio : fd.io = posO 0 fd.cls) (hN : fd.ps.length ≤ fd.N.length) :
    EnvRel K ⟨H, G, ia, L, []⟩ [] (cls0 fd) G (ds.map some ++ List.replicate (fd.N.length - fd.ps.length) none) (L2.start fd.N vs) H := by
  have hl := A.len
  have hl' := A.len'
  have slot : ∀ i d, (ds.map some ++ List.replicate (fd.N.length - fd.ps.length) none)[i]? = some (some d) → ∃ hi : i < vs.length, ds[i]? = some d ∧ (L2.start fd.N vs)[i]? = some (some vs[i]) ∧ clA (cls0 fd) i = clA fd.cls i := by
    intro i d h
    have hi : i < ds.length := by
      by_cases q : i < ds.length
      · exact q
      · rw [List.getElem?_append_right (by simp; omega)] at h
        rw [List.getElem?_replicate] at h
        split at h <;> cases h
    rw [List.getElem?_append_left (by simpa using hi), List.getElem?_map] at h
    have hiv : i < vs.length := by omega
    refine ⟨hiv, ?_, ?_, ?_⟩
    · cases hd : ds[i]? with
      | none => rw [hd] at h; cases h
      | some d' => rw [hd] at h; cases h; rfl
    · unfold L2.start
      rw [List.getElem?_append_left (by simpa using hiv), List.getElem?_map, List.getElem?_eq_getElem hiv]; rfl
    · unfold cls0
      exact clA_app (by omega)
  have nd1 : (ia.map (·.1)).Nodup := by rw [A.ios, hio]; exact posO_nd _ _
  have ioat : ∀ p ∈ ia, clA fd.cls p.1 = .O ∧ ∃ d, ds[p.1]? = some d ∧ vs[p.1]? = some (.ref p.2) ∧ G p.2 = none ∧ Own K G H p.2 d := by
    intro p hp
    have hm : p.1 ∈ posO 0 fd.cls := by rw [← hio, ← A.ios]; exact List.mem_map_of_mem hp
    have hO := (posO_mem hm).2
    rw [Nat.sub_zero] at hO
    have hi : p.1 < fd.cls.length := by
      by_cases q : p.1 < fd.cls.length
      · exact q
      · unfold clA at hO
        rw [List.getD_eq_getElem?_getD, List.getElem?_eq_none (by omega)] at hO
        cases hO
    have hv : p.1 < vs.length := by omega
    have hd : p.1 < ds.length := by omega
    have := A.at_ p.1 vs[p.1] ds[p.1] (List.getElem?_eq_getElem hv) (List.getElem?_eq_getElem hd)
    rw [hO] at this
    obtain ⟨a, h1, h2, h3, h4⟩ := this
    have e : a = p.2 := pair_fst nd1 h1 (by obtain ⟨x, y⟩ := p; exact hp)
    subst e
    exact ⟨hO, ds[p.1], List.getElem?_eq_getElem hd, by rw [List.getElem?_eq_getElem hv, h2], h3, h4⟩
  exact {
    fz := fz
    g0 := Ex.refl G
    gf := fun b h => .inl h
    h0 := fun b h => h
    kp := fun b o h _ => .inl ⟨by simp, h⟩
    len := by unfold L2.start; simp; omega
    cl := by unfold cls0; simp; omega
    sl := fun i d h => by
      obtain ⟨hiv, hd, hσ, hcl0⟩ := slot i d h
      refine ⟨vs[i], hσ, ?_⟩
      have := A.at_ i _ _ (List.getElem?_eq_getElem hiv) hd
      rw [hcl0]
      cases hcl : clA fd.cls i with
      | F => rw [hcl] at this; exact this
      | B =>
        rw [hcl] at this
        obtain ⟨r, hne⟩ := this
        show Rep K G vs[i] d ∨ ∃ a, vs[i] = .ref a ∧ (∀ p ∈ ia, p.2 ≠ a) ∧ OwnR K G H a d
        have off : ∀ {a : Addr}, vs[i] = .ref a → ∀ p ∈ ia, p.2 ≠ a := fun e p hp z => hne p hp (by rw [e, z])
        cases d with
        | lst xs => obtain ⟨a, ys, e, h1, h2⟩ := r; exact .inr ⟨a, e, off e, ys, h1, h2⟩
        | dic xs => obtain ⟨a, ys, e, h1, h2⟩ := r; exact .inr ⟨a, e, off e, ys, h1, h2⟩
        | tup xs => exact .inl r
        | non => rw [show vs[i] = _ from r]; exact .inl .non
        | bl b => rw [show vs[i] = _ from r]; exact .inl (.bl b)
        | int b => rw [show vs[i] = _ from r]; exact .inl (.int b)
        | str b => rw [show vs[i] = _ from r]; exact .inl (.str b)
      | O =>
        rw [hcl] at this
        obtain ⟨a, h1, h2, h3, h4⟩ := this
        exact .inr ⟨a, h2, h3, .inr ⟨(i, a), h1, rfl⟩, h4⟩
    ap := fun i j d e a hij c1 c2 h1 m1 h2 m2 s1 s2 => by
      obtain ⟨hi, hd, hσ, hc1⟩ := slot i d h1
      obtain ⟨hj, he, hσ', hc2⟩ := slot j e h2
      have q1 := A.at_ i _ _ (List.getElem?_eq_getElem hi) hd
      have q2 := A.at_ j _ _ (List.getElem?_eq_getElem hj) he
      rw [hc1] at c1
      rw [hc2] at c2
      rw [c1] at q1
      rw [c2] at q2
      obtain ⟨a1, x1, x2, _⟩ := q1
      obtain ⟨a2, y1, y2, _⟩ := q2
      rw [hσ, x2] at s1
      rw [hσ', y2] at s2
      cases s1; cases s2
      exact hij (pair_snd A.apart x1 y1)
    io := fun p hp => by
      obtain ⟨hO, d, hd, hv, hg, hw⟩ := ioat p hp
      have hvi : p.1 < vs.length := (List.getElem?_eq_some_iff.mp hv).1
      have hdi : p.1 < ds.length := by omega
      have he : (ds.map some ++ List.replicate (fd.N.length - fd.ps.length) none)[p.1]? = some (some d) := by
        rw [List.getElem?_append_left (by simpa using hdi), List.getElem?_map, hd]; rfl
      obtain ⟨hiv, _, hσ, hcl0⟩ := slot p.1 d he
      refine ⟨by rw [hcl0]; exact hO, ?_, d, he, hw.mut⟩
      rw [hσ]
      rw [List.getElem?_eq_getElem hiv] at hv
      rw [Option.some.inj hv]
    ib := fun p hp => by
      obtain ⟨_, d, _, _, hg, hw⟩ := ioat p hp
      exact ⟨hg, hw.ne⟩
    lks := fun p hp => by cases hp }
theorem ioOut_at : ∀ {is : List Nat} {e : PyI.Env} {outs : List D}, ioOut e is = some outs → outs.length = is.length ∧ ∀ (j : Nat) i d, is[j]? = some i → outs[j]? = some d → look e i = some d
  | [], _, _, h => by cases h; exact ⟨rfl, fun j i d h => by simp at h⟩
  | i :: is, e, outs, h => by
    have h' : (match look e i, ioOut e is with | some d, some ds => some (d :: ds) | _, _ => none) = some outs := h
    cases h1 : look e i with
    | none => rw [h1] at h'; cases h'
    | some d =>
      cases h2 : ioOut e is with
      | none => rw [h1, h2] at h'; cases h'
      | some ds =>
        rw [h1, h2] at h'
        cases h'
        obtain ⟨g1, g2⟩ := ioOut_at h2
        refine ⟨by simp [g1], fun j i' d' q1 q2 => ?_⟩
        cases j with
        | zero => simp at q1 q2; subst q1; subst q2; exact h1
        | succ j => exact g2 j i' d' (by simpa using q1) (by simpa using q2)
theorem fns_ok (T : TopOk K mg S) : ∀ (n f : Nat) (fd : FDef), S.fds[f]? = some fd → ∃ (a : Addr) (fdt : FuncData), mg fd.name = some (.ref a) ∧ PySem.W.keepIn K (.ref a) = true ∧ FnOk P w K mg base CX0 (n + 1) a fdt fd.ps (spF K (callF S.fds n) f fd) ∧
    (∀ n, n ≤ fd.ps.length → fd.ps.length ≤ n + fd.dfl.length → ∃ ds dvs, Binds K fdt fd.ps ds ∧ Vals dvs ds ∧ RepL K (fun _ => none) dvs (dflTo fd n)) ∧ ∀ x qual params body scope dvs kws fdt', FunD K x qual params body scope dvs kws a fdt' → fdt' = fdt := by
  intro n
  induction n with
  | zero =>
    intro f fd hf
    obtain ⟨x, qual, params, body, scope, dvs, kws, a, fdt, F, hm, hs, hk, hb⟩ := (T.def_ f fd hf).ex
    refine ⟨a, fdt, hm, F.kp, F.ok hs (fun vs H Q E h => ?_) (fun cdv A outer s H vs Q E hr h => ?_), hb, ?_⟩
    · obtain ⟨L, G, ds, ia, d, outs, _, hA, _⟩ := h
      exact hA.len
    · obtain ⟨L, G, ds, ia, d, outs, _, _, hc, _⟩ := h
      cases hc
    · intro x' qual' params' body' scope' dvs' kws' fdt' F'
      obtain ⟨oc, od, dV, kV, doc, pm, an, cdv, ct, osl, e1, lk, _⟩ := F.ex
      obtain ⟨oc', od', dV', kV', doc', pm', an', cdv', ct', osl', e1', lk', _⟩ := F'.ex
      rw [lk] at lk'
      cases lk'
      rfl
  | succ n ih =>
    intro f fd hf
    obtain ⟨x, qual, params, body, scope, dvs, kws, a, fdt, F, hm, hs, hk, hb⟩ := (T.def_ f fd hf).ex
    refine ⟨a, fdt, hm, F.kp, F.ok hs (fun vs H Q E h => ?_) (fun cdv A outer s H vs Q E hr h => ?_), hb, ?_⟩
    · obtain ⟨L, G, ds, ia, d, outs, _, hA, _⟩ := h
      exact hA.len
    · obtain ⟨L, G, ds, ia, d, outs, fz, hA, hc, k⟩ := h
      unfold chkDef at hk
      simp only [Bool.and_eq_true, decide_eq_true_eq, Option.isSome_iff_exists] at hk
      obtain ⟨⟨⟨⟨k1, k2⟩, k3⟩, k4⟩, cn, k5⟩ := hk
      have E0 := env_start fz hA k1 k2 k4
      obtain ⟨fl, hx, hfl⟩ := callF_run hf hA.len' hc
      let X : Cx := (cxOf CX0 P w K mg base fd.N qual scope a cdv A outer s H E).nox
      have C : CtxS { S with N := fd.N } (callF S.fds n) X := {
        N := rfl
        nd := hs.nd
        calm := rfl
        un := by have := hr.un; show (A.deeper _).units + 121 < cLine; omega
        blt := T.blt
        cst := T.cst
        fns := fun f' fd' hf' => by
          obtain ⟨a', fdt', hm', kp', ok', hb', _⟩ := ih f' fd' hf'
          refine ⟨?_, ⟨⟨n + 1, a', fdt', hr, hm', kp', ok', hb'⟩, fun ds h1 h2 => callF_dfl hf' h1 h2⟩⟩
          obtain ⟨_, _, _, _, _, _, _, _, _, _, _, _, hk', _⟩ := (T.def_ f' fd' hf').ex
          unfold chkDef at hk'
          simp only [Bool.and_eq_true, decide_eq_true_eq] at hk'
          exact hk'.1.1.1.1
        kind := hs.kind
        fn := fun _ _ => rfl
        pass := PassesOwn.never }
      have pss := chkSs_ok (io := fd.io) (fr := fd.fresh) fd.body (cls := cls0 fd) (lc := none) (cn := cn) (sts := body) C k5
      refine ⟨_, pss.nox, ⟨H, G, ia, L, []⟩, [], G, _, fl, E0, hA.ios, hx, ?_⟩
      have fin : ∀ {c : List Cl} {G' : Hp} {e : PyI.Env} {σ' : L2.St} {H' : Hp} {v : V} {d' : D}, EnvRel K ⟨H, G, ia, L, []⟩ [] c G' e σ' H' → d' = d → ioOut e fd.io = some outs → PostB K fd.fresh G' H H' v d' → Q v H' := by
        intro c G' e σ' H' v d' E' hd ho r
        subst hd
        obtain ⟨o1, o2⟩ := ioOut_at ho
        refine k v G' H' ⟨fun b o hb q => ?_, E'.h0, E'.g0, E'.gf, E'.fz⟩ r ⟨by rw [o1, ← hA.ios, List.length_map], fun j p d hj hd => ?_⟩
        · rcases E'.kp b o q (fun p hp z => hb (by rw [← z]; exact List.mem_map_of_mem hp)) with ⟨_, z⟩ | ⟨z, _⟩
          · exact z
          · simp at z
        · have hp : p ∈ ia := List.mem_of_getElem? hj
          have hjo : fd.io[j]? = some p.1 := by rw [← hA.ios, List.getElem?_map, hj]; rfl
          have hl := o2 j p.1 d hjo hd
          obtain ⟨c1, s1, d1, h1, m1⟩ := E'.io p hp
          have e1 := look_some hl
          rw [h1] at e1
          cases e1
          obtain ⟨w, w1, w2⟩ := E'.sl p.1 d h1
          rw [s1] at w1
          cases w1
          rw [c1] at w2
          rcases w2 with ⟨m, _⟩ | ⟨a, ea, g, _, own⟩
          · rw [m1] at m; cases m
          · cases ea; exact ⟨g, own⟩
      rcases hfl with ⟨e, rfl, hd, ho⟩ | ⟨e, rfl, ho⟩
      · intro c _ G' σ' H' E' _
        exact fin E' hd.symm ho (by cases fd.fresh <;> exact Rep.non)
      · intro c G' v σ' H' E' _ r
        exact fin E' rfl ho r
    · intro x' qual' params' body' scope' dvs' kws' fdt' F'
      obtain ⟨oc, od, dV, kV, doc, pm, an, cdv, ct, osl, e1, lk, _⟩ := F.ex
      obtain ⟨oc', od', dV', kV', doc', pm', an', cdv', ct', osl', e1', lk', _⟩ := F'.ex
      rw [lk] at lk'
      cases lk'
      rfl
/-- a list of whole numbers, handed to a def of one parameter -/
theorem sp_law {f n : Nat} {fd : FDef} (hf : S.fds[f]? = some fd) (hps : fd.ps.length = 1) (hcl : fd.cls = [.F]) (hio : fd.io = []) {H : Hp} {a : Addr} {ns : List Int} (hs : SqL K H a (ns.map V.int)) (hc : callF S.fds n f [.lst (ns.map D.int)] = some (.bl true, [])) (E : XK) :
    spF K (callF S.fds n) f fd [.ref a] H (fun v _ => v = .bl true) E := by
  have r : ∀ ns : List Int, RepL K H (ns.map V.int) (ns.map D.int) := by
    intro ns
    induction ns with
    | nil => exact .nil
    | cons x xs ih => exact .cons (.int x) ih
  refine ⟨[], H, _, [], _, _, ⟨fun b o q => .inl ⟨by simp, q⟩, fun b hb => by cases hb⟩, ⟨by simp [hps], by simp [hps], fun i v d h1 h2 => ?_, by simp [hio], by simp⟩, hc, fun v G' H' s p _ => ?_⟩
  · cases i with
    | zero =>
      simp at h1 h2
      subst h1 h2
      rw [hcl]
      exact Rep.lst hs (r ns)
    | succ i => simp at h1
  · have : Rep K G' v (.bl true) := by
      cases hfr : fd.fresh with
      | true => rw [hfr] at p; exact p
      | false => rw [hfr] at p; exact p
    cases this
    rfl
end
end PyI
end

section
set_option maxRecDepth 100000
set_option maxHeartbeats 4000000
namespace PyI
open PySem PySem.Spec PyProof.Rows L2
def dflOf : List PySem.Expr → List He.Dv
  | [] => []
  | .Constant (.int i) _ _ :: r => .int i :: dflOf r
  | .Constant .none _ _ :: r => .non :: dflOf r
  | _ :: r => .non :: dflOf r
def defsOf : List Stmt → List He.DefD
  | [] => []
  | .FunctionDef n a b _ _ _ sc _ _ _ :: r => ⟨(n, none), n, n, a, b, sc, dflOf a.defaults, []⟩ :: defsOf r
  | _ :: r => defsOf r
def fnScB (N P : List Str) (sc : Scope) : Bool :=
  (match sc.kind with | .function => true | _ => false) && !sc.isCoroutine && !sc.isGenerator && decide N.Nodup && decide (N.take P.length = P) && (P.all fun x => decide (sc.names.lookup x = some .local) || decide (sc.names.lookup x = some .cell)) && (sc.names.all fun y => match y.2 with | .free => false | _ => true)
theorem fnSc_of {N P : List Str} {sc : Scope} (h : fnScB N P sc = true) : FnScope N P sc := by
  unfold fnScB at h
  simp only [Bool.and_eq_true, decide_eq_true_eq, Bool.not_eq_true', List.all_eq_true, Bool.or_eq_true] at h
  obtain ⟨⟨⟨⟨⟨⟨h1, h2⟩, h3⟩, h4⟩, h5⟩, h6⟩, h7⟩ := h
  refine ⟨?_, h2, h3, h4, h5, h6, fun y hy q => ?_⟩
  · cases hk : sc.kind with
    | function => rfl
    | _ => rw [hk] at h1; cases h1
  · have := h7 y hy
    rw [q] at this
    cases this
def faFree (fa : List He.Fa) (x : Str) : Bool := fa.any fun f => match f with
  | .free y => decide (y = x)
  | _ => false
def faGlo (fa : List He.Fa) (x : Str) : Bool := fa.any fun f => match f with
  | .glo y => decide (y = x)
  | _ => false
def faC (fa : List He.Fa) (x : Str) : D → Bool
  | .int i => fa.any fun f => match f with
    | .int y j => decide (y = x) && decide (j = i)
    | _ => false
  | .str i => fa.any fun f => match f with
    | .str y j => decide (y = x) && decide (j = i)
    | _ => false
  | _ => false
def chkFds (S : Stat) (fa : List He.Fa) : List FDef → List He.DefD → Bool
  | [], [] => true
  | fd :: fds, d :: ds => decide (d.at_ = (fd.name, none)) && faGlo fa fd.name && fnScB fd.N fd.ps d.scope && chkDef S fd d.body d.scope && chkFds S fa fds ds
  | _, _ => false
def BindN (params : Arguments) (ps : List Str) : Prop := ∀ (x qual : Str) (body : List Stmt) (scope : Scope) (kV doc pm : Value) (an : Option Addr) (cdv ct : Value) (us : List Value), us.length = ps.length → bindArgs (PySem.W.fnOf x qual params body scope .none kV doc pm an cdv ct) ⟨us, []⟩ = pure (ps.zip us)
/-- n values are written, of L defaults those behind the first j fill up -/
def BindF (params : Arguments) (ps : List Str) (n j L : Nat) : Prop := ∀ (x qual : Str) (body : List Stmt) (scope : Scope) (T : Addr) (kV doc pm : Value) (an : Option Addr) (cdv ct : Value) (us its : List Value), us.length = n → its.length = L →
  ∃ k, bindArgs (PySem.W.fnOf x qual params body scope (.ref T) kV doc pm an cdv ct) ⟨us, []⟩ = seqItems? (.ref T) >>= k ∧ k (some its.toArray) = pure (ps.zip (us ++ its.drop j))
/-- m values lack -/
def BindFs (params : Arguments) (ps : List Str) (L : Nat) : Nat → Prop
  | 0 => BindF params ps ps.length L L
  | m + 1 => BindF params ps (ps.length - (m + 1)) (L - (m + 1)) L ∧ BindFs params ps L m
theorem BindFs.at_ {params : Arguments} {ps : List Str} {L : Nat} : ∀ {m : Nat}, BindFs params ps L m → ∀ j, j ≤ m → BindF params ps (ps.length - j) (L - j) L
  | 0, h, j, hj => by
    have : j = 0 := by omega
    subst this
    exact h
  | m + 1, h, j, hj => by
    by_cases e : j = m + 1
    · subst e; exact h.1
    · exact BindFs.at_ h.2 j (by omega)
def dvRep : He.Dv → D → Bool
  | .int i, .int j => decide (i = j)
  | .non, .non => true
  | _, _ => false
def dvReps : List He.Dv → List D → Bool
  | [], [] => true
  | x :: xs, y :: ys => dvRep x y && dvReps xs ys
  | _, _ => false
theorem dvReps_ok {K : PySem.W.Frag} {G : Hp} : ∀ {xs : List He.Dv} {ys : List D}, dvReps xs ys = true → RepL K G (xs.map (He.Dv.v K)) ys
  | [], [], _ => .nil
  | [], _ :: _, h => by cases h
  | _ :: _, [], h => by cases h
  | x :: xs, y :: ys, h => by
    rw [dvReps, Bool.and_eq_true] at h
    refine .cons ?_ (dvReps_ok h.2)
    have h1 := h.1
    unfold dvRep at h1
    split at h1
    · have := of_decide_eq_true h1
      subst this
      exact .int _
    · exact .non
    · cases h1
def BindD (fd : FDef) (d : He.DefD) : Prop := (d.dfl = [] ∧ fd.dfl = [] ∧ BindN d.params fd.ps) ∨ (fd.dfl ≠ [] ∧ d.dfl ≠ [] ∧ fd.dfl.length ≤ fd.ps.length ∧ dvReps d.dfl fd.dfl = true ∧ BindFs d.params fd.ps fd.dfl.length fd.dfl.length)
def BindDs : List FDef → List He.DefD → Prop
  | [], [] => True
  | fd :: fds, d :: ds => BindD fd d ∧ BindDs fds ds
  | _, _ => False
section
variable {K : PySem.W.Frag} {h : Heap} {mg : Str → Option Value} {S : Stat} {fa : List He.Fa} {fn : List He.DefD}
theorem glo_of (c : He.SaysD fa fn K) (X : K.In h) (G : h.Ns mainGlobals mg) {x : Str} (hg : faGlo fa x = true) : mg x = some (.ref (He.ga K x)) := by
  unfold faGlo at hg
  rw [List.any_eq_true] at hg
  obtain ⟨f, hf, hq⟩ := hg
  split at hq
  · have := of_decide_eq_true hq
    subst this
    exact He.glo_ok X G (c.facts hf)
  · cases hq
theorem free_of (c : He.SaysD fa fn K) (X : K.In h) (G : h.Ns mainGlobals mg) {x : Str} (hg : faFree fa x = true) : mg x = none := by
  unfold faFree at hg
  rw [List.any_eq_true] at hg
  obtain ⟨f, hf, hq⟩ := hg
  split at hq
  · have := of_decide_eq_true hq
    subst this
    exact He.free_ok X G (c.facts hf)
  · cases hq
theorem cst_of (c : He.SaysD fa fn K) (X : K.In h) (G : h.Ns mainGlobals mg) {x : Str} {d : D} (hg : faC fa x d = true) : ∃ v u, mg x = some u ∧ RelV v u ∧ Rep K (fun _ => none) v d := by
  cases d with
  | int i =>
    have hg' : (fa.any fun f => match f with | .int y j => decide (y = x) && decide (j = i) | _ => false) = true := hg
    rw [List.any_eq_true] at hg'
    obtain ⟨f, hf, hq⟩ := hg'
    split at hq
    · rw [Bool.and_eq_true, decide_eq_true_eq, decide_eq_true_eq] at hq
      obtain ⟨rfl, rfl⟩ := hq
      obtain ⟨t, e⟩ := He.int_ok X G (c.facts hf)
      exact ⟨.int _, _, e, ⟨_, rfl⟩, .int _⟩
    · cases hq
  | str i =>
    have hg' : (fa.any fun f => match f with | .str y j => decide (y = x) && decide (j = i) | _ => false) = true := hg
    rw [List.any_eq_true] at hg'
    obtain ⟨f, hf, hq⟩ := hg'
    split at hq
    · rw [Bool.and_eq_true, decide_eq_true_eq, decide_eq_true_eq] at hq
      obtain ⟨rfl, rfl⟩ := hq
      obtain ⟨t, e⟩ := He.str_ok X G (c.facts hf)
      exact ⟨.str _, _, e, ⟨_, rfl⟩, .str _⟩
    · cases hq
  | _ => cases hg
theorem fds_ok (c : He.SaysD fa fn K) (X : K.In h) (G : h.Ns mainGlobals mg) : ∀ {fds : List FDef} {ds : List He.DefD}, (∀ d ∈ ds, d ∈ fn) → chkFds S fa fds ds = true → BindDs fds ds → ∀ (f : Nat) (fd : FDef), fds[f]? = some fd → DefOk K mg S fd
  | [], _, _, _, _, f, fd, hf => by simp at hf
  | _ :: _, [], _, hk, _, _, _, _ => by cases hk
  | fd0 :: fds, d :: ds, hm, hk, hb, f, fd, hf => by
    have hk' : (decide (d.at_ = (fd0.name, none)) && faGlo fa fd0.name && fnScB fd0.N fd0.ps d.scope && chkDef S fd0 d.body d.scope && chkFds S fa fds ds) = true := hk
    simp only [Bool.and_eq_true, decide_eq_true_eq] at hk'
    obtain ⟨⟨⟨⟨k1, k2⟩, k3⟩, k4⟩, k5⟩ := hk'
    obtain ⟨b1, b2⟩ := hb
    cases f with
    | succ f => exact fds_ok c X G (fun d hd => hm d (List.mem_cons_of_mem _ hd)) k5 b2 f fd (by simpa using hf)
    | zero =>
      simp at hf
      subst hf
      obtain ⟨fdt, F⟩ := c.defs (hm d List.mem_cons_self)
      rcases b1 with ⟨e1, e2, bn⟩ | ⟨e1, e2, e3, e4, e5⟩
      case inr =>
        rw [k1] at F
        have rp : ∀ G, RepL K G (d.dvs K) fd0.dfl := fun G => dvReps_ok e4
        have hne : d.dvs K ≠ [] := by unfold He.DefD.dvs; simpa using e2
        have hl : (d.dvs K).length = fd0.dfl.length := (rp fun _ => none).length
        refine ⟨_, _, _, _, _, _, _, _, fdt, F, glo_of c X G k2, fnSc_of k3, k4, fun n n1 n2 => ?_⟩
        have bf := e5.at_ (fd0.ps.length - n) (by omega)
        rw [show fd0.ps.length - (fd0.ps.length - n) = n by omega] at bf
        obtain ⟨ds, v1, v2⟩ := F.binds1 n (fd0.dfl.length - (fd0.ps.length - n)) hne (by rw [hl]; omega) fun T kV doc pm an cdv ct us its h1 h2 => bf _ _ _ _ T kV doc pm an cdv ct us its h1 (by rw [h2, hl])
        exact ⟨ds, _, v2, v1, (rp _).drop _⟩
      have hdv : d.dvs K = [] := by unfold He.DefD.dvs; rw [e1]; rfl
      rw [hdv] at F
      rw [k1] at F
      refine ⟨_, _, _, _, _, _, _, _, fdt, F, glo_of c X G k2, fnSc_of k3, k4, fun n n1 n2 => ⟨[], [], ?_, .nil, ?_⟩⟩
      · exact F.bindsN fun kV doc pm an cdv ct us hl => bn _ _ _ _ _ _ _ _ _ _ us hl
      · unfold dflTo; rw [e2, List.drop_nil]; exact .nil
def chkTop (S : Stat) (fa : List He.Fa) (fn : List He.DefD) : Bool := S.blt.all (faFree fa) && S.consts.all (fun p => faC fa p.1 p.2) && chkFds S fa S.fds fn
theorem top_of (c : He.SaysD fa fn K) (X : K.In h) (G : h.Ns mainGlobals mg) (hk : chkTop S fa fn = true) (hb : BindDs S.fds fn) : TopOk K mg S := by
  unfold chkTop at hk
  rw [Bool.and_eq_true, Bool.and_eq_true, List.all_eq_true, List.all_eq_true] at hk
  exact ⟨fun x hx => free_of c X G (hk.1.1 x hx), fun p hp => cst_of c X G (hk.1.2 p hp), fds_ok c X G (fun _ q => q) hk.2 hb⟩
theorem bindDs_at : ∀ {fds : List FDef} {ds : List He.DefD}, BindDs fds ds → ∀ {f : Nat} {fd : FDef}, fds[f]? = some fd → ∃ d, ds[f]? = some d ∧ BindD fd d
  | [], _, _, f, fd, hf => by simp at hf
  | _ :: _, [], hb, _, _, _ => hb.elim
  | fd0 :: fds, d :: ds, hb, f, fd, hf => by
    cases f with
    | zero => simp at hf; subst hf; exact ⟨d, by simp, hb.1⟩
    | succ f =>
      obtain ⟨d', q1, q2⟩ := bindDs_at hb.2 (f := f) (by simpa using hf)
      exact ⟨d', by simpa using q1, q2⟩
/-- the law's def -/
theorem law_end (c : He.SaysD fa fn K) (X : K.In h) (G : h.Ns mainGlobals mg) (hk : chkTop S fa fn = true) (hb : BindDs S.fds fn) (n li : Nat) {fd : FDef} {x : Str} {a : Addr} (hf : S.fds[li]? = some fd) (hps : fd.ps = [x]) (hdf : fd.dfl = []) (hmg : mg fd.name = some (.ref a)) :
    ∃ fdt : FuncData, (∀ (s : Shared) (v : Value), BindsTo s fdt ⟨[v], []⟩ [(x, v)]) ∧ ∀ (P : Program) (w : World) (base : Heap), FnOk P w K mg base CX0 (n + 1) a fdt [x] (spF K (callF S.fds n) li fd) := by
  have T := top_of c X G hk hb
  obtain ⟨d, hd, bd⟩ := bindDs_at hb hf
  obtain ⟨e1, e2, bn⟩ := bd.resolve_right fun z => z.1 hdf
  obtain ⟨fdt, F⟩ := c.defs (List.mem_of_getElem? hd)
  have hdv : d.dvs K = [] := by unfold He.DefD.dvs; rw [e1]; rfl
  rw [hdv] at F
  refine ⟨fdt, fun s v => ?_, fun P w base => ?_⟩
  · have := FunD.bindsA (ps := [x]) F (fun kV doc pm an cdv ct us hl => by rw [← hps]; exact bn _ _ _ _ _ _ _ _ _ _ us (by rw [hps]; exact hl)) s [v] rfl
    exact this
  · obtain ⟨a', fdt', hm', _, ok, _, un⟩ := fns_ok (P := P) (w := w) (base := base) T n li fd hf
    rw [hmg] at hm'
    cases hm'
    have ha : He.fAd K d.at_ = a := by
      have hk2 := hk
      unfold chkTop at hk2
      rw [Bool.and_eq_true] at hk2
      have at1 : ∀ {fds : List FDef} {ds : List He.DefD} {f : Nat} {fd : FDef} {d : He.DefD}, chkFds S fa fds ds = true → fds[f]? = some fd → ds[f]? = some d → d.at_ = (fd.name, none) ∧ faGlo fa fd.name = true := by
        intro fds
        induction fds with
        | nil => intro ds f fd d _ h1; simp at h1
        | cons fd0 fds ih =>
          intro ds f fd d hc h1 h2
          cases ds with
          | nil => cases hc
          | cons d0 ds =>
            have hc' : (decide (d0.at_ = (fd0.name, none)) && faGlo fa fd0.name && fnScB fd0.N fd0.ps d0.scope && chkDef S fd0 d0.body d0.scope && chkFds S fa fds ds) = true := hc
            simp only [Bool.and_eq_true, decide_eq_true_eq] at hc'
            cases f with
            | zero => simp at h1 h2; subst h1 h2; exact ⟨hc'.1.1.1.1, hc'.1.1.1.2⟩
            | succ f => exact ih hc'.2 (by simpa using h1) (by simpa using h2)
      obtain ⟨q1, q2⟩ := at1 hk2.2 hf hd
      rw [q1]
      have := glo_of c X G q2
      rw [hmg] at this
      cases this
      rfl
    rw [ha] at F
    have := un _ _ _ _ _ _ _ _ F
    subst this
    rw [← hps]
    exact ok
end
end PyI
end

section
set_option maxRecDepth 100000
set_option maxHeartbeats 4000000
namespace PyI
open PySem
theorem callF_at {fds : List FDef} {n f : Nat} {fd : FDef} (h : fds[f]? = some fd) {ds : List D} : callF fds (n + 1) f ds = runD (callF fds n) fd (fill fd ds) := by
  show (match fds[f]? with | none => none | some fd => runD (callF fds n) fd (fill fd ds)) = _
  rw [h]
theorem callF_at0 {fds : List FDef} {n f : Nat} {fd : FDef} (h : fds[f]? = some fd) (hd : fd.dfl = []) {ds : List D} : callF fds (n + 1) f ds = runD (callF fds n) fd ds := by
  rw [callF_at h]; unfold fill; rw [hd, List.drop_nil, List.append_nil]
@[simp] theorem look_0 {d : D} {e : Env} : look (some d :: e) 0 = some d := id rfl
@[simp] theorem look_s {x : Option D} {e : Env} {i : Nat} : look (x :: e) (i + 1) = look e i := id rfl
/-! the interpreter by rules that simp takes -/
section
variable {cf : CF} {env : Env}
def asB : Option D → Option Bool
  | some (.bl b) => some b
  | _ => none
@[simp] theorem asB_some {b : Bool} : asB (some (.bl b)) = some b := id rfl
@[simp] theorem e_var {i : Nat} : evalE cf env (.var i) = look env i := id rfl
@[simp] theorem e_lit {d : D} : evalE cf env (.lit d) = some d := id rfl
@[simp] theorem e_glb {x : Str} {d : D} : evalE cf env (.glb x d) = some d := id rfl
@[simp] theorem e_op1 {o : Op1} {a : E} : evalE cf env (.op1 o a) = (evalE cf env a).bind (sem1 o) := by
  rw [evalE]; cases evalE cf env a <;> rfl
@[simp] theorem e_op2 {o : Op2} {a b : E} : evalE cf env (.op2 o a b) = (evalE cf env a).bind fun x => (evalE cf env b).bind fun y => sem2 o x y := by
  rw [evalE]; cases evalE cf env a <;> first | rfl | (cases evalE cf env b <;> rfl)
@[simp] theorem e_isi {a : E} {t : Ty} : evalE cf env (.isi a t) = (evalE cf env a).map fun x => .bl (ofTy t x) := by
  rw [evalE]; cases evalE cf env a <;> rfl
@[simp] theorem e_tup {es : List E} : evalE cf env (.tup es) = (evalEs cf env es).map .tup := by
  rw [evalE]; cases evalEs cf env es <;> rfl
@[simp] theorem e_lst {es : List E} : evalE cf env (.lst es) = (evalEs cf env es).map .lst := by
  rw [evalE]; cases evalEs cf env es <;> rfl
@[simp] theorem e_dct0 : evalE cf env (.dct [] []) = some (.dic []) := id rfl
@[simp] theorem es_nil : evalEs cf env [] = some [] := id rfl
@[simp] theorem es_cons {e : E} {es : List E} : evalEs cf env (e :: es) = (evalE cf env e).bind fun x => (evalEs cf env es).map fun xs => x :: xs := by
  rw [evalEs]; cases evalE cf env e <;> first | rfl | (cases evalEs cf env es <;> rfl)
@[simp] theorem e_and {a b : E} : evalE cf env (.and_ a b) = (asB (evalE cf env a)).bind fun k => if k = true then (asB (evalE cf env b)).map .bl else some (.bl false) := by
  rw [evalE]
  cases evalE cf env a with
  | none => rfl
  | some x =>
    cases x with
    | bl k =>
      cases k with
      | false => rfl
      | true => cases evalE cf env b with
        | none => rfl
        | some y => cases y <;> rfl
    | _ => rfl
@[simp] theorem e_or {a b : E} : evalE cf env (.or_ a b) = (asB (evalE cf env a)).bind fun k => if k = true then some (.bl true) else (asB (evalE cf env b)).map .bl := by
  rw [evalE]
  cases evalE cf env a with
  | none => rfl
  | some x =>
    cases x with
    | bl k =>
      cases k with
      | true => rfl
      | false => cases evalE cf env b with
        | none => rfl
        | some y => cases y <;> rfl
    | _ => rfl
@[simp] theorem e_ite {c a b : E} : evalE cf env (.ite c a b) = (asB (evalE cf env c)).bind fun k => if k = true then evalE cf env a else evalE cf env b := by
  rw [evalE]
  cases evalE cf env c with
  | none => rfl
  | some x =>
    cases x with
    | bl k => cases k <;> rfl
    | _ => rfl
@[simp] theorem e_cmp2 {o o' : Op2} {a b c : E} : evalE cf env (.cmp2 o o' a b c) = (evalE cf env a).bind fun x => (evalE cf env b).bind fun y => (asB (sem2 o x y)).bind fun k => if k = true then (evalE cf env c).bind fun z => sem2 o' y z else some (.bl false) := by
  rw [evalE]
  cases evalE cf env a with
  | none => rfl
  | some x =>
    cases evalE cf env b with
    | none => rfl
    | some y =>
      simp only [Option.bind_some]
      cases sem2 o x y with
      | none => rfl
      | some k =>
        cases k with
        | bl k =>
          cases k with
          | true => cases evalE cf env c <;> rfl
          | false => rfl
        | _ => rfl
@[simp] theorem e_call {f : Nat} {args : List E} : evalE cf env (.call f args) = (evalEs cf env args).bind fun ds => (cf f ds).map (·.1) := by
  rw [evalE]
  cases evalEs cf env args with
  | none => rfl
  | some ds =>
    simp only [Option.bind_some]
    cases cf f ds <;> rfl
def stepC (cf : CF) (env : Env) (elt : E) (tg : Tg) (conds : List E) : D → Option (Option D) := fun x => (bindT tg x env).bind fun env' => (evalCs cf env' conds).bind fun k => if k = true then (evalE cf env' elt).map some else some none
@[simp] theorem e_comp {elt : E} {tg : Tg} {io : ItOp} {src conds : List E} : evalE cf env (.comp elt tg io src conds) = (evalEs cf env src).bind fun ss => (iterD io ss).bind fun xs => if xs.length ≤ BIG then (compL (stepC cf env elt tg conds) xs).map .lst else none := by
  rw [evalE]
  cases evalEs cf env src with
  | none => rfl
  | some ss =>
    simp only [Option.bind_some]
    cases iterD io ss with
    | none => rfl
    | some xs =>
      simp only [Option.bind_some]
      split
      · have key : ∀ f, f = stepC cf env elt tg conds → (match compL f xs with | some ys => some (D.lst ys) | none => none) = Option.map D.lst (compL (stepC cf env elt tg conds) xs) := by
          rintro f rfl
          cases compL (stepC cf env elt tg conds) xs <;> rfl
        refine key _ ?_
        funext x
        unfold stepC
        cases bindT tg x env with
        | none => rfl
        | some env' =>
          simp only [Option.bind_some]
          cases evalCs cf env' conds with
          | none => rfl
          | some k =>
            cases k with
            | true => cases evalE cf env' elt <;> rfl
            | false => rfl
      · rfl
@[simp] theorem cs_nil : evalCs cf env [] = some true := id rfl
@[simp] theorem cs_one {c : E} : evalCs cf env [c] = asB (evalE cf env c) := by
  rw [evalCs]
  cases evalE cf env c with
  | none => rfl
  | some x =>
    cases x with
    | bl k => cases k <;> rfl
    | _ => rfl
@[simp] theorem e_slice {a : E} {lo hi : Option E} : evalE cf env (.slice a lo hi) = (evalE cf env a).bind fun x => (evalO cf env lo).bind fun l => (evalO cf env hi).bind fun h => sliceSem x l h := by
  rw [evalE]
  cases evalE cf env a with
  | none => rfl
  | some x =>
    simp only [Option.bind_some]
    cases evalO cf env lo with
    | none => rfl
    | some l => simp only [Option.bind_some]; cases evalO cf env hi <;> rfl
def asI : Option D → Option Int
  | some (.int b) => some b
  | _ => none
@[simp] theorem asI_some {b : Int} : asI (some (.int b)) = some b := id rfl
@[simp] theorem o_none : evalO cf env none = some none := id rfl
@[simp] theorem o_some {e : E} : evalO cf env (some e) = (asI (evalE cf env e)).map some := by
  rw [evalO]
  cases evalE cf env e with
  | none => rfl
  | some x => cases x <;> rfl
def thenF (cf : CF) (r : List S) : Fl → Option Fl
  | .nxt e => execSs cf e r
  | o => some o
@[simp] theorem thenF_nxt {r : List S} {e : Env} : thenF cf r (.nxt e) = execSs cf e r := id rfl
@[simp] theorem thenF_ret {r : List S} {d : D} {e : Env} : thenF cf r (.ret d e) = some (.ret d e) := id rfl
@[simp] theorem thenF_brk {r : List S} {e : Env} : thenF cf r (.brk e) = some (.brk e) := id rfl
@[simp] theorem thenF_cnt {r : List S} {e : Env} : thenF cf r (.cnt e) = some (.cnt e) := id rfl
@[simp] theorem xs_nil : execSs cf env [] = some (.nxt env) := id rfl
@[simp] theorem xs_cons {s : S} {r : List S} : execSs cf env (s :: r) = (execS cf env s).bind (thenF cf r) := by
  rw [execSs]
  cases execS cf env s with
  | none => rfl
  | some fl => cases fl <;> rfl
@[simp] theorem x_asg {i : Nat} {o : Bool} {e : E} : execS cf env (.asg i o e) = (evalE cf env e).map fun d => .nxt (env.set i (some d)) := by
  rw [execS]; cases evalE cf env e <;> rfl
@[simp] theorem x_asgT {is : List Nat} {e : E} : execS cf env (.asgT is e) = (evalE cf env e).bind fun d => (bindT (.tup is) d env).map .nxt := by
  rw [execS]
  cases evalE cf env e with
  | none => rfl
  | some d => simp only [Option.bind_some]; cases bindT (.tup is) d env <;> rfl
@[simp] theorem x_ret {e : E} : execS cf env (.ret e) = (evalE cf env e).map fun d => .ret d env := by
  rw [execS]; cases evalE cf env e <;> rfl
@[simp] theorem x_frz {i : Nat} : execS cf env (.frz i) = some (.nxt env) := id rfl
@[simp] theorem x_iff {c : E} {a b : List S} : execS cf env (.iff c a b) = (asB (evalE cf env c)).bind fun k => if k = true then execSs cf env a else execSs cf env b := by
  rw [execS]
  cases evalE cf env c with
  | none => rfl
  | some x =>
    cases x with
    | bl k => cases k <;> rfl
    | _ => rfl
def stepF (cf : CF) (tg : Tg) (body : List S) : Env → D → Option Fl := fun env x => (bindT tg x env).bind fun env' => execSs cf env' body
@[simp] theorem x_for {tg : Tg} {io : ItOp} {src : List E} {body : List S} : execS cf env (.for_ tg io src body) = (evalEs cf env src).bind fun ss => (iterD io ss).bind fun xs => forL (stepF cf tg body) env xs := by
  rw [execS]
  cases evalEs cf env src with
  | none => rfl
  | some ss =>
    simp only [Option.bind_some]
    cases iterD io ss with
    | none => rfl
    | some xs =>
      simp only [Option.bind_some]
      congr 1
      funext env x
      unfold stepF
      cases bindT tg x env <;> rfl
@[simp] theorem x_app {i : Nat} {e : E} {xs : List D} (h : look env i = some (.lst xs)) (hl : xs.length < BIG) : execS cf env (.app i e) = (evalE cf env e).map fun d => .nxt (env.set i (some (.lst (xs ++ [d])))) := by
  rw [execS, h]
  simp only []
  cases evalE cf env e with
  | none => rfl
  | some d => simp only [if_pos hl]; rfl
theorem x_setD {i : Nat} {k v : E} {kvs : List (Key × D)} {d kd : D} {key : Key} (h : look env i = some (.dic kvs)) (hv : evalE cf env v = some d) (hk : evalE cf env k = some kd) (hkey : keyOf kd = some key) (hl : kvs.length < BIG) : execS cf env (.setix i k v) = some (.nxt (env.set i (some (.dic (dput kvs key d))))) := by
  rw [execS, hv, h]
  simp only []
  rw [hk]
  simp only []
  rw [hkey]
  simp only []
  rw [if_pos hl]
def outF (io : List Nat) : Fl → Option (D × List D)
  | .ret d e => (ioOut e io).map fun o => (d, o)
  | .nxt e => (ioOut e io).map fun o => (.non, o)
  | _ => none
theorem runD_eq {fd : FDef} {args : List D} (h : args.length = fd.ps.length) : runD cf fd args = (execSs cf (args.map some ++ List.replicate (fd.N.length - fd.ps.length) none) fd.body).bind (outF fd.io) := by
  unfold runD
  rw [if_pos h]
  cases execSs cf (args.map some ++ List.replicate (fd.N.length - fd.ps.length) none) fd.body with
  | none => rfl
  | some fl => cases fl <;> rfl
@[simp] theorem outF_ret {d : D} {e : Env} : outF [] (.ret d e) = some (d, []) := id rfl
@[simp] theorem outF_nxt {e : Env} : outF [] (.nxt e) = some (.non, []) := id rfl
@[simp] theorem b_name {i : Nat} {d : D} : bindT (.name i) d env = some (env.set i (some d)) := id rfl
theorem b_tup {is : List Nat} {ds : List D} (h : is.length = ds.length) : bindT (.tup is) (.tup ds) env = some (setAll env is ds) := by
  show (if is.length = ds.length then some (setAll env is ds) else none) = _
  rw [if_pos h]
@[simp] theorem b_tup2 {i j : Nat} {x y : D} : bindT (.tup [i, j]) (.tup [x, y]) env = some ((env.set i (some x)).set j (some y)) := id rfl
end
/-! whole numbers -/
@[simp] theorem s_add {i j : Int} : sem2 .add (.int i) (.int j) = some (.int (i + j)) := id rfl
@[simp] theorem s_sub {i j : Int} : sem2 .sub (.int i) (.int j) = some (.int (i - j)) := id rfl
theorem s_mul {i j : Int} (h : mulOk i j = true) : sem2 .mul (.int i) (.int j) = some (.int (i * j)) := by
  show (if mulOk i j = true then some (D.int (i * j)) else none) = _
  rw [if_pos h]
theorem mulOk_l {i j : Int} (h : i.natAbs < 18446744073709551616) : mulOk i j = true := by simp [mulOk, h]
theorem mulOk_r {i j : Int} (h : j.natAbs < 18446744073709551616) : mulOk i j = true := by simp [mulOk, h]
theorem s_mod {i j : Int} (h : 0 < j) : sem2 .mod (.int i) (.int j) = some (.int (i % j)) := by
  show (if 0 < j then some (D.int (i % j)) else none) = _
  rw [if_pos h]
theorem s_fdiv {i j : Int} (h : 0 < j) (h2 : j < 1073741824) : sem2 .fdiv (.int i) (.int j) = some (.int (i / j)) := by
  show (if divOk j = true then some (D.int (i / j)) else none) = _
  rw [if_pos (by simp [divOk, h, h2])]
theorem s_pow {i j : Int} (h : powOk i j = true) : sem2 .pow (.int i) (.int j) = some (.int (i ^ j.toNat)) := by
  show (if powOk i j = true then some (D.int (i ^ j.toNat)) else none) = _
  rw [if_pos h]
@[simp] theorem s_p15 : sem2 .pow (.int 10) (.int 15) = some (.int 1000000000000000) := by rw [s_pow (by decide)]; rfl
@[simp] theorem s_p60 : sem2 .pow (.int 10) (.int 60) = some (.int 1000000000000000000000000000000000000000000000000000000000000) := by rw [s_pow (by decide)]; rfl
@[simp] theorem s_p58 : sem2 .pow (.int 10) (.int 58) = some (.int 10000000000000000000000000000000000000000000000000000000000) := by rw [s_pow (by decide)]; rfl
@[simp] theorem s_eqI {i j : Int} : sem2 .eq (.int i) (.int j) = some (.bl (decide (i = j))) := by
  have : (i == j) = decide (i = j) := by rw [Bool.eq_iff_iff]; simp
  simp [sem2, eqSem, plainD, toPy, PyData.depth, deq, this]
@[simp] theorem s_neI {i j : Int} : sem2 .ne (.int i) (.int j) = some (.bl (decide (i ≠ j))) := by
  have : (i == j) = decide (i = j) := by rw [Bool.eq_iff_iff]; simp
  simp [sem2, eqSem, plainD, toPy, PyData.depth, deq, this]
@[simp] theorem s_eqB {i j : Bool} : sem2 .eq (.bl i) (.bl j) = some (.bl (i == j)) := by simp [sem2, eqSem, plainD, toPy, PyData.depth, deq]
@[simp] theorem s_lt {i j : Int} : sem2 .lt (.int i) (.int j) = some (.bl (decide (i < j))) := id rfl
@[simp] theorem s_le {i j : Int} : sem2 .le (.int i) (.int j) = some (.bl (decide (i ≤ j))) := id rfl
@[simp] theorem s_gt {i j : Int} : sem2 .gt (.int i) (.int j) = some (.bl (decide (j < i))) := id rfl
@[simp] theorem s_ge {i j : Int} : sem2 .ge (.int i) (.int j) = some (.bl (decide (j ≤ i))) := id rfl
@[simp] theorem s_max2 {i j : Int} : sem2 .max2 (.int i) (.int j) = some (.int (if j > i then j else i)) := id rfl
@[simp] theorem s_isB {i j : Bool} : sem2 .is_ (.bl i) (.bl j) = some (.bl (i == j)) := id rfl
@[simp] theorem s_isnB {i j : Bool} : sem2 .isnot (.bl i) (.bl j) = some (.bl (!(i == j))) := id rfl
@[simp] theorem s_lenT {xs : List D} : sem1 .len (.tup xs) = some (.int xs.length) := id rfl
@[simp] theorem s_lenL {xs : List D} : sem1 .len (.lst xs) = some (.int xs.length) := id rfl
theorem s_lenS {s : Str} (h : s.length ≤ BIG) : sem1 .len (.str s) = some (.int s.length) := by
  show (if s.length ≤ BIG then some (D.int s.length) else none) = _
  rw [if_pos h]
@[simp] theorem s_notB {b : Bool} : sem1 .not_ (.bl b) = some (.bl (!b)) := id rfl
@[simp] theorem s_negI {i : Int} : sem1 .neg (.int i) = some (.int (-i)) := id rfl
theorem boolsD_map (bs : List Bool) : boolsD (bs.map D.bl) = some bs := by
  induction bs with
  | nil => rfl
  | cons b r ih => simp [boolsD, ih]
theorem s_all {bs : List Bool} : sem1 .all_ (.lst (bs.map D.bl)) = some (.bl (bs.all id)) := by
  show (boolsD (bs.map D.bl)).map (fun bs => D.bl (bs.all id)) = _
  rw [boolsD_map]; rfl
/-! items -/
theorem atI_nat {α : Type} {xs : List α} {i : Int} {x : α} (h0 : 0 ≤ i) (h : xs[i.toNat]? = some x) : L2.atI xs i = some x := by
  have hi : i.toNat < xs.length := (List.getElem?_eq_some_iff.mp h).1
  unfold L2.atI L2.ixN
  rw [if_pos h0, if_pos (by omega)]
  exact h
theorem s_ixL {xs : List D} {i : Int} {x : D} (h0 : 0 ≤ i) (h : xs[i.toNat]? = some x) : sem2 .ix (.lst xs) (.int i) = some x := atI_nat h0 h
theorem s_ixT {xs : List D} {i : Int} {x : D} (h0 : 0 ≤ i) (h : xs[i.toNat]? = some x) : sem2 .ix (.tup xs) (.int i) = some x := atI_nat h0 h
theorem s_ixS {s : Str} {i : Int} {c : Nat} (hb : s.length ≤ BIG) (h0 : 0 ≤ i) (h : s.cps.toList[i.toNat]? = some c) : sem2 .ix (.str s) (.int i) = some (.str ⟨#[c]⟩) := by
  show (if s.length ≤ BIG then (L2.atI s.cps.toList i).map (fun c => D.str ⟨#[c]⟩) else none) = _
  rw [if_pos hb, atI_nat h0 h]; rfl
@[simp] theorem s_ixT0 {x : D} {xs : List D} : sem2 .ix (.tup (x :: xs)) (.int 0) = some x := s_ixT (by decide) rfl
@[simp] theorem s_ixT1 {x y : D} {xs : List D} : sem2 .ix (.tup (x :: y :: xs)) (.int 1) = some y := s_ixT (by decide) rfl
@[simp] theorem s_ixT2 {x y z : D} {xs : List D} : sem2 .ix (.tup (x :: y :: z :: xs)) (.int 2) = some z := s_ixT (by decide) rfl
/-! comprehensions -/
theorem compL_map {f : D → Option (Option D)} {g : D → D} : ∀ {xs : List D}, (∀ x ∈ xs, f x = some (some (g x))) → compL f xs = some (xs.map g)
  | [], _ => rfl
  | x :: r, h => by
    rw [compL, h x List.mem_cons_self]
    simp only []
    rw [compL_map fun y hy => h y (List.mem_cons_of_mem _ hy)]
    rfl
/-- over data of a type of its own -/
theorem compL_on {α : Type} {e : α → D} {f : D → Option (Option D)} {g : α → D} : ∀ {xs : List α}, (∀ x ∈ xs, f (e x) = some (some (g x))) → compL f (xs.map e) = some (xs.map g)
  | [], _ => rfl
  | x :: r, h => by
    rw [List.map_cons, compL, h x List.mem_cons_self]
    simp only []
    rw [compL_on fun y hy => h y (List.mem_cons_of_mem _ hy)]
    rfl
theorem compL_filter {α : Type} {e : α → D} {f : D → Option (Option D)} {g : α → D} {p : α → Bool} : ∀ {xs : List α}, (∀ x ∈ xs, f (e x) = some (if p x = true then some (g x) else none)) → compL f (xs.map e) = some ((xs.filter p).map g)
  | [], _ => rfl
  | x :: r, h => by
    rw [List.map_cons, compL, h x List.mem_cons_self, List.filter_cons]
    have ih := compL_filter (xs := r) fun y hy => h y (List.mem_cons_of_mem _ hy)
    by_cases q : p x = true
    · rw [if_pos q, if_pos q]; simp only []; rw [ih]; rfl
    · rw [if_neg q, if_neg q]; simp only []; rw [ih]
/-! loops -/
theorem forL_ix {f : Env → D → Option Fl} (I : Nat → Env) : ∀ {xs : List D} (k : Nat), (∀ (i : Nat) (x : D), xs[i]? = some x → f (I (k + i)) x = some (.nxt (I (k + i + 1)))) → forL f (I k) xs = some (.nxt (I (k + xs.length)))
  | [], k, _ => rfl
  | x :: r, k, h => by
    have h0 := h 0 x rfl
    rw [Nat.add_zero] at h0
    rw [forL, h0]
    simp only []
    have := forL_ix I (xs := r) (k + 1) fun i y hy => by
      have := h (i + 1) y (by simpa using hy)
      rw [show k + (i + 1) = k + 1 + i by omega] at this
      exact this
    rw [this, List.length_cons]
    congr 3
    omega
theorem forL_inv {f : Env → D → Option Fl} {I : Env → Prop} : ∀ {xs : List D} {e : Env}, (∀ x ∈ xs, ∀ e, I e → ∃ e', f e x = some (.nxt e') ∧ I e') → I e → ∃ e', forL f e xs = some (.nxt e') ∧ I e'
  | [], e, _, h => ⟨e, rfl, h⟩
  | x :: r, e, hs, h => by
    obtain ⟨e1, q1, q2⟩ := hs x List.mem_cons_self e h
    obtain ⟨e2, q3, q4⟩ := forL_inv (fun y hy => hs y (List.mem_cons_of_mem _ hy)) q2
    exact ⟨e2, by rw [forL, q1]; exact q3, q4⟩
/-- with the turn told -/
theorem forL_inv_ix {f : Env → D → Option Fl} {I : Nat → Env → Prop} : ∀ {xs : List D} {e : Env} (k : Nat), (∀ (i : Nat) x e, xs[i]? = some x → I (k + i) e → ∃ e', f e x = some (.nxt e') ∧ I (k + i + 1) e') → I k e → ∃ e', forL f e xs = some (.nxt e') ∧ I (k + xs.length) e'
  | [], e, k, _, h => ⟨e, rfl, h⟩
  | x :: r, e, k, hs, h => by
    obtain ⟨e1, q1, q2⟩ := hs 0 x e rfl h
    obtain ⟨e2, q3, q4⟩ := forL_inv_ix (k + 1) (fun i y e hy he => by
      have := hs (i + 1) y e (by simpa using hy) (by rw [show k + (i + 1) = k + 1 + i by omega]; exact he)
      rw [show k + (i + 1) = k + 1 + i by omega] at this
      exact this) q2
    exact ⟨e2, by rw [forL, q1]; exact q3, by rw [List.length_cons, show k + (r.length + 1) = k + 1 + r.length by omega]; exact q4⟩
/-! texts -/
def tx (l : List Nat) : Str := ⟨l.toArray⟩
theorem tx_len (l : List Nat) : (tx l).length = l.length := by show l.toArray.size = _; simp
theorem tx_toList (l : List Nat) : (tx l).cps.toList = l := by simp [tx]
theorem tx_of (s : Str) : s = tx s.cps.toList := by cases s; simp [tx]
theorem tx_app (a b : List Nat) : tx a ++ tx b = tx (a ++ b) := by
  show (⟨a.toArray ++ b.toArray⟩ : Str) = ⟨(a ++ b).toArray⟩
  simp
theorem s_addS {a b : List Nat} (h : a.length + b.length ≤ BIG) : sem2 .add (.str (tx a)) (.str (tx b)) = some (.str (tx (a ++ b))) := by
  show (if (tx a).length + (tx b).length ≤ BIG then some (D.str (tx a ++ tx b)) else none) = _
  rw [tx_len, tx_len, if_pos h, tx_app]
theorem strIn_one (c : Nat) (l : List Nat) : strIn ⟨#[c]⟩ (tx l) = decide (c ∈ l) := StrLaws.found_one (tx l) c |>.trans (by rw [show (tx l).cps = l.toArray from rfl])
theorem s_inS {c : Nat} {l : List Nat} : sem2 .isin (.str (tx [c])) (.str (tx l)) = some (.bl (decide (c ∈ l))) := by
  show (inSem (.str ⟨#[c]⟩) (.str (tx l))).map D.bl = _
  show some (D.bl (strIn ⟨#[c]⟩ (tx l))) = _
  rw [strIn_one]
theorem chars_tx (l : List Nat) : chars (tx l) = l.map fun c => .str (tx [c]) := by simp [chars, tx_toList]; intro a _; rfl
theorem s_sliceS {l : List Nat} {lo hi : Option Int} (h : l.length ≤ BIG) : sliceSem (.str (tx l)) lo hi = some (.str (tx (cutL l lo hi))) := by
  show (if (tx l).length ≤ BIG then some (D.str ⟨(cutL (tx l).cps.toList lo hi).toArray⟩) else none) = _
  rw [tx_len, if_pos h, tx_toList]; rfl
theorem cutL_to {α : Type} (xs : List α) {i : Int} (h : 0 ≤ i) : cutL xs none (some i) = xs.take i.toNat := by
  unfold cutL
  have : HT.sIx xs.length 0 none = 0 := rfl
  have h2 : HT.sIx xs.length xs.length (some i) = min i.toNat xs.length := by
    show (if i < 0 then _ else _) = _
    rw [if_neg (by omega)]
  rw [this, h2, List.drop_zero, Nat.sub_zero, List.take_eq_take_iff]
  omega
theorem cutL_from {α : Type} (xs : List α) {i : Int} (h : 0 ≤ i) : cutL xs (some i) none = xs.drop i.toNat := by
  unfold cutL
  have h1 : HT.sIx xs.length xs.length none = xs.length := rfl
  have h2 : HT.sIx xs.length 0 (some i) = min i.toNat xs.length := by
    show (if i < 0 then _ else _) = _
    rw [if_neg (by omega)]
  rw [h1, h2]
  by_cases q : i.toNat ≤ xs.length
  · rw [Nat.min_eq_left q, List.take_of_length_le (by simp)]
  · rw [Nat.min_eq_right (by omega), List.drop_eq_nil_of_le (Nat.le_refl _), List.drop_eq_nil_of_le (by omega), List.take_nil]
theorem cutL_mid {α : Type} (xs : List α) {i j : Int} (h : 0 ≤ i) (h' : 0 ≤ j) : cutL xs (some i) (some j) = (xs.take j.toNat).drop i.toNat := by
  unfold cutL
  have h1 : HT.sIx xs.length xs.length (some j) = min j.toNat xs.length := by
    show (if j < 0 then _ else _) = _
    rw [if_neg (by omega)]
  have h2 : HT.sIx xs.length 0 (some i) = min i.toNat xs.length := by
    show (if i < 0 then _ else _) = _
    rw [if_neg (by omega)]
  rw [h1, h2, List.drop_take]
  apply List.ext_getElem?
  intro k
  rw [List.getElem?_take, List.getElem?_take, List.getElem?_drop, List.getElem?_drop]
  by_cases a : k < min j.toNat xs.length - min i.toNat xs.length
  · rw [if_pos a, if_pos (by omega), Nat.min_eq_left (by omega)]
  · rw [if_neg a]
    by_cases b : k < j.toNat - i.toNat
    · rw [if_pos b, List.getElem?_eq_none (by omega)]
    · rw [if_neg b]
end PyI
end

section
set_option maxRecDepth 100000
set_option maxHeartbeats 4000000
namespace PyI
open PySem
def fdCellAt : FDef := { name := "_law_cell_at", ps := ["_law_script", "_law_k"], N := ["_law_script", "_law_k"], dfl := [], cls := [.F, .F], io := [], fresh := false, body := [
  .iff (.op2 .lt (.var 1) (.op1 .len (.var 0))) [.ret (.op2 .ix (.var 0) (.var 1))] [],
  .ret (.lit (.int 0))] }
def fdMixed : FDef := { name := "_law_mixed", ps := ["_law_cell", "_law_k"], N := ["_law_cell", "_law_k", "_law_number", "_law_j"], dfl := [], cls := [.F, .F], io := [], fresh := false, body := [
  .iff (.and_ (.op2 .eq (.op2 .mod (.var 0) (.lit (.int 2))) (.lit (.int 0))) (.op2 .gt (.var 0) (.op2 .pow (.lit (.int 10)) (.lit (.int 15))))) [.asg 2 false (.op2 .mod (.op2 .fdiv (.var 0) (.lit (.int 2))) (.op2 .pow (.lit (.int 10)) (.lit (.int 60)))), .for_ (.name 3) .range [(.op2 .mod (.var 1) (.lit (.int 8)))] [.asg 2 false (.op2 .fdiv (.var 2) (.lit (.int 97)))], .ret (.var 2)] [],
  .asg 2 false (.op2 .mod (.op2 .mul (.op2 .add (.op2 .add (.op2 .mod (.var 0) (.op2 .pow (.lit (.int 10)) (.lit (.int 60)))) (.op2 .mul (.lit (.int 7919)) (.var 1))) (.lit (.int 3))) (.lit (.int 69621))) (.lit (.int 2147483647))),
  .ret (.op2 .mod (.op2 .mul (.var 2) (.var 2)) (.lit (.int 2147483629)))] }
section
variable {cf : CF}
def cellAt (ns : List Int) (k : Nat) : Int := ns.getD k 0
theorem run_cellAt {ns : List Int} {k : Nat} : runD cf fdCellAt [.lst (ns.map D.int), .int k] = some (.int (cellAt ns k), []) := by
  rw [runD_eq rfl]
  by_cases h : k < ns.length
  · have h1 : (ns.map D.int)[(k : Int).toNat]? = some (.int ns[k]) := by simp [h]
    simp [fdCellAt, h, s_ixL (by omega : (0 : Int) ≤ k) h1, cellAt]
  · simp [fdCellAt, h, cellAt]
/-- the numbers that the laws draw -/
def mixed (c k : Int) : Int := if c % 2 = 0 ∧ 1000000000000000 < c then c / 2 % 1000000000000000000000000000000000000000000000000000000000000 / 97 ^ (k % 8).toNat else
  (c % 1000000000000000000000000000000000000000000000000000000000000 + 7919 * k + 3) * 69621 % 2147483647 * ((c % 1000000000000000000000000000000000000000000000000000000000000 + 7919 * k + 3) * 69621 % 2147483647) % 2147483629
theorem mixed_nn (c k : Int) : 0 ≤ mixed c k := by
  unfold mixed
  split
  · exact Int.ediv_nonneg (Int.emod_nonneg _ (by decide)) (Int.pow_nonneg (by decide))
  · exact Int.emod_nonneg _ (by decide)
theorem rangeD_len (lo c : Int) (n : Nat) : (rangeD lo c n).length = n := by simp [rangeD]
theorem rangeD_get {lo c : Int} {n i : Nat} {x : D} (h : (rangeD lo c n)[i]? = some x) : i < n ∧ x = .int (lo + i * c) := by
  unfold rangeD at h
  rw [List.getElem?_map] at h
  by_cases q : i < n
  · rw [List.getElem?_range q] at h
    cases h
    exact ⟨q, rfl⟩
  · rw [List.getElem?_eq_none (by simp; omega)] at h; cases h
theorem it_range1 {n : Nat} (h : n < 4611686018427387904) : iterD .range [.int n] = some (rangeD 0 1 n) := by
  show (if small62 (n : Int) = true then some (rangeD 0 1 (n : Int).toNat) else none) = _
  rw [if_pos (by simp [small62]; omega), Int.toNat_natCast]
theorem div_pow_succ (x : Int) (i : Nat) : x / 97 ^ i / 97 = x / 97 ^ (i + 1) := by
  rw [Int.ediv_ediv_of_nonneg (Int.pow_nonneg (by decide)), Int.pow_succ]
theorem it_rangeI {i : Int} (h0 : -4611686018427387904 ≤ i) (h : i < 4611686018427387904) : iterD .range [.int i] = some (rangeD 0 1 i.toNat) := by
  show (if small62 i = true then some (rangeD 0 1 i.toNat) else none) = _
  rw [if_pos (by simp [small62]; omega)]
theorem m_m2 {c : Int} : sem2 .mod (.int c) (.int 2) = some (.int (c % 2)) := s_mod (by decide)
theorem m_d2 {c : Int} : sem2 .fdiv (.int c) (.int 2) = some (.int (c / 2)) := s_fdiv (by decide) (by decide)
theorem m_big {x : Int} : sem2 .mod (.int x) (.int 1000000000000000000000000000000000000000000000000000000000000) = some (.int (x % 1000000000000000000000000000000000000000000000000000000000000)) := s_mod (by decide)
theorem m_m8 {k : Int} : sem2 .mod (.int k) (.int 8) = some (.int (k % 8)) := s_mod (by decide)
theorem m_d97 {x : Int} : sem2 .fdiv (.int x) (.int 97) = some (.int (x / 97)) := s_fdiv (by decide) (by decide)
theorem m_l1 {x : Int} : sem2 .mul (.int 7919) (.int x) = some (.int (7919 * x)) := s_mul (mulOk_l (by decide))
theorem m_l2 {x : Int} : sem2 .mul (.int x) (.int 69621) = some (.int (x * 69621)) := s_mul (mulOk_r (by decide))
theorem m_l3 {x : Int} : sem2 .mod (.int x) (.int 2147483647) = some (.int (x % 2147483647)) := s_mod (by decide)
theorem m_l4 {x : Int} : sem2 .mod (.int x) (.int 2147483629) = some (.int (x % 2147483629)) := s_mod (by decide)
theorem m_l5 {x : Int} : sem2 .mul (.int (x % 2147483647)) (.int (x % 2147483647)) = some (.int (x % 2147483647 * (x % 2147483647))) := s_mul (mulOk_l (by
    have h1 := Int.emod_nonneg x (show (2147483647 : Int) ≠ 0 by decide)
    have h2 := Int.emod_lt_of_pos x (show (0 : Int) < 2147483647 by decide)
    omega))
theorem loop_mixed (c k N : Int) (n : Nat) : forL (stepF cf (.name 3) [.asg 2 false (.op2 .fdiv (.var 2) (.lit (.int 97)))]) [some (.int c), some (.int k), some (.int N), none] (rangeD 0 1 n) =
      some (.nxt [some (.int c), some (.int k), some (.int (N / 97 ^ n)), if n = 0 then none else some (.int (n - 1))]) := by
    have := forL_ix (f := stepF cf (.name 3) [.asg 2 false (.op2 .fdiv (.var 2) (.lit (.int 97)))]) (fun i => [some (.int c), some (.int k), some (.int (N / 97 ^ i)), if i = 0 then none else some (.int (i - 1))]) (xs := rangeD 0 1 n) 0 fun i x hx => by
        obtain ⟨hi, rfl⟩ := rangeD_get hx
        simp [stepF, m_d97, div_pow_succ]
    rw [rangeD_len] at this
    simpa using this
theorem run_mixed {c k : Int} : runD cf fdMixed [.int c, .int k] = some (.int (mixed c k), []) := by
  have hr : iterD .range [.int (k % 8)] = some (rangeD 0 1 (k % 8).toNat) := it_rangeI (by omega) (by omega)
  rw [runD_eq rfl]
  by_cases hc : c % 2 = 0
  · by_cases hb : 1000000000000000 < c
    · have e : mixed c k = c / 2 % 1000000000000000000000000000000000000000000000000000000000000 / 97 ^ (k % 8).toNat := by unfold mixed; rw [if_pos ⟨hc, hb⟩]
      rw [e]
      simp [fdMixed, m_m2, m_d2, m_big, m_m8, hc, hb, hr, loop_mixed]
    · have e : mixed c k = (c % 1000000000000000000000000000000000000000000000000000000000000 + 7919 * k + 3) * 69621 % 2147483647 * ((c % 1000000000000000000000000000000000000000000000000000000000000 + 7919 * k + 3) * 69621 % 2147483647) % 2147483629 := by unfold mixed; rw [if_neg fun q => hb q.2]
      rw [e]
      simp [fdMixed, m_m2, m_big, m_l1, m_l2, m_l3, m_l4, m_l5, hc, hb]
  · have e : mixed c k = (c % 1000000000000000000000000000000000000000000000000000000000000 + 7919 * k + 3) * 69621 % 2147483647 * ((c % 1000000000000000000000000000000000000000000000000000000000000 + 7919 * k + 3) * 69621 % 2147483647) % 2147483629 := by unfold mixed; rw [if_neg fun q => hc q.1]
    rw [e]
    simp [fdMixed, m_m2, m_big, m_l1, m_l2, m_l3, m_l4, m_l5, hc]
/-! the five names -/
def alpha : List Nat := [97, 98, 99, 100, 101, 102, 103, 104, 105, 106, 107, 108, 109, 110, 111, 112, 113, 114, 115, 116, 117, 118, 119, 120, 121, 122]
theorem abc_tx : Str.ofString "abcdefghijklmnopqrstuvwxyz" = tx alpha := by decide +kernel
theorem nil_tx : Str.ofString "" = tx [] := by decide +kernel
theorem alpha_at : ∀ i : Nat, i < 26 → alpha[i]? = some (97 + i) := by decide
theorem alpha_mem {c : Nat} : c ∈ alpha ↔ 97 ≤ c ∧ c ≤ 122 := by
  constructor
  · intro h
    simp [alpha] at h
    omega
  · intro ⟨h1, h2⟩
    have := alpha_at (c - 97) (by omega)
    have h3 := List.mem_of_getElem? this
    rwa [show 97 + (c - 97) = c by omega] at h3
def let26 (x : Int) : Nat := 97 + (x % 26).toNat
theorem let26_ok (x : Int) : 97 ≤ let26 x ∧ let26 x ≤ 122 := by unfold let26; omega
theorem s_mod26 {x : Int} : sem2 .mod (.int x) (.int 26) = some (.int (x % 26)) := s_mod (by decide)
theorem s_let {x : Int} : sem2 .ix (.str (tx alpha)) (.int (x % 26)) = some (.str (tx [let26 x])) := by
  refine s_ixS (by rw [tx_len]; decide) (by omega) ?_
  rw [tx_toList]
  exact alpha_at _ (by omega)
def stemOf (c : Int) : List Nat := (List.range (mixed c 99 % 8).toNat).map fun (k : Nat) => let26 (mixed c (90 + (k : Int)))
def atOf (c : Int) : Nat := (mixed c 99 / 8 % ((stemOf c).length + 1)).toNat
def endOf (c : Int) (k : Nat) : List Nat := if k % 2 = 0 ∨ 0 < mixed c 99 % 3 then (stemOf c).drop (atOf c) else []
def nameOf (c : Int) (k : Nat) : List Nat := (stemOf c).take (atOf c) ++ [let26 (mixed c 99 / 72 + 5 * k)] ++ endOf c k
def namesOf (c : Int) : List (List Nat) := (List.range 5).map (nameOf c)
theorem stem_len (c : Int) : (stemOf c).length ≤ 7 := by unfold stemOf; simp; omega
theorem stem_ok {c : Int} {x : Nat} (h : x ∈ stemOf c) : 97 ≤ x ∧ x ≤ 122 := by
  unfold stemOf at h
  simp only [List.mem_map] at h
  obtain ⟨k, _, rfl⟩ := h
  exact let26_ok _
/-- what a name is -/
def nmOk (l : List Nat) : Prop := 1 ≤ l.length ∧ l.length ≤ 8 ∧ ∀ c ∈ l, 97 ≤ c ∧ c ≤ 122
theorem name_ok (c : Int) (k : Nat) : nmOk (nameOf c k) := by
  have h := stem_len c
  unfold nameOf endOf
  refine ⟨by simp; omega, ?_, fun x hx => ?_⟩
  · split
    · simp; omega
    · simp; omega
  · rw [List.mem_append, List.mem_append, List.mem_singleton] at hx
    rcases hx with (hx | rfl) | hx
    · exact stem_ok (List.mem_of_mem_take hx)
    · exact let26_ok _
    · split at hx
      · exact stem_ok (List.mem_of_mem_drop hx)
      · cases hx
theorem sum_ones (l : List Nat) : (l.map fun _ => 1).sum = l.length := by
  induction l with
  | nil => rfl
  | cons x r ih => simp [ih]; omega
theorem joinS_nil (L : List (List Nat)) : joinS (tx []) (L.map tx) = tx L.flatten := by
  rw [show joinS (tx []) (L.map tx) = Str.join (tx []) (L.map tx) from StrLaws.glued_eq_join _ _]
  induction L with
  | nil => rfl
  | cons a r ih =>
    cases r with
    | nil => show tx a = _; simp
    | cons b r =>
      show tx a ++ tx [] ++ Str.join (tx []) ((b :: r).map tx) = _
      rw [ih, tx_app, tx_app, List.append_nil]
      rfl
theorem strsD_map (L : List Str) : strsD (L.map D.str) = some L := by
  induction L with
  | nil => rfl
  | cons a r ih => simp [strsD, ih]
theorem s_join0 {L : List (List Nat)} (h : (L.map List.length).sum ≤ BIG) : sem2 .join (.str (tx [])) (.lst (L.map fun l => D.str (tx l))) = some (.str (tx L.flatten)) := by
  have e : (L.map fun l => D.str (tx l)) = (L.map tx).map D.str := by simp
  rw [e]
  show (match strsD ((L.map tx).map D.str) with
    | some ys => if (ys.map fun (y : Str) => y.length).sum + ys.length * (tx []).length ≤ BIG then some (D.str (joinS (tx []) ys)) else none
    | none => none) = _
  rw [strsD_map]
  simp only []
  have e2 : ((L.map tx).map fun (y : Str) => y.length).sum + (L.map tx).length * (tx []).length = (L.map List.length).sum := by
    rw [tx_len, List.length_nil, Nat.mul_zero, Nat.add_zero, List.map_map]
    congr 1
  rw [e2, if_pos h, joinS_nil]
theorem s_mulS {l : List Nat} {b : Bool} (h : l.length ≤ 1000) : sem2 .mul (.str (tx l)) (.int (if b then 1 else 0)) = some (.str (tx (if b then l else []))) := by
  show (if ((if b then (1 : Int) else 0) ≤ 1000 && -1000 ≤ (if b then (1 : Int) else 0) && (tx l).length ≤ 1000) = true then some (D.str (repS (if b then (1 : Int) else 0).toNat (tx l))) else none) = _
  rw [tx_len]
  cases b with
  | true =>
    rw [if_pos (by simp [h])]
    have : repS (1 : Nat) (tx l) = tx l := by
      unfold repS
      rw [tx_toList]
      simp [tx]
    exact congrArg (fun z => some (D.str z)) this
  | false =>
    rw [if_pos (by simp [h])]
    rfl
def fdNames (m : Nat) : FDef := { name := "_law_names", ps := ["_law_cell"], N := ["_law_cell", "_law_some", "_law_mixed_here", "_law_stem", "_law_at", "_law_ends", "_law_k"], dfl := [], cls := [.F], io := [], fresh := false, body := [
  .asg 1 false (.lit (.str "abcdefghijklmnopqrstuvwxyz")),
  .asg 2 false (.call m [(.var 0), (.lit (.int 99))]),
  .asg 3 false (.op2 .join (.lit (.str "")) (.comp (.op2 .ix (.var 1) (.op2 .mod (.call m [(.var 0), (.op2 .add (.lit (.int 90)) (.var 6))]) (.lit (.int 26)))) (.name 6) .range [(.op2 .mod (.var 2) (.lit (.int 8)))] [])),
  .asg 4 false (.op2 .mod (.op2 .fdiv (.var 2) (.lit (.int 8))) (.op2 .add (.op1 .len (.var 3)) (.lit (.int 1)))),
  .asg 5 false (.lst [(.slice (.var 3) (some (.var 4)) none), (.op2 .mul (.slice (.var 3) (some (.var 4)) none) (.op1 .int_ (.op2 .gt (.op2 .mod (.var 2) (.lit (.int 3))) (.lit (.int 0)))))]),
  .ret (.comp (.op2 .add (.op2 .add (.slice (.var 3) none (some (.var 4))) (.op2 .ix (.var 1) (.op2 .mod (.op2 .add (.op2 .fdiv (.var 2) (.lit (.int 72))) (.op2 .mul (.lit (.int 5)) (.var 6))) (.lit (.int 26))))) (.op2 .ix (.var 5) (.op2 .mod (.var 6) (.lit (.int 2))))) (.name 6) .range [(.lit (.int 5))] [])] }
theorem rangeD_map (n : Nat) : rangeD 0 1 n = (List.range n).map fun (i : Nat) => D.int i := by
  unfold rangeD
  exact List.map_congr_left fun i _ => by simp
theorem s_int_b {b : Bool} : sem1 .int_ (.bl b) = some (.int (if b then 1 else 0)) := rfl
theorem run_names {m : Nat} {c : Int} (hm : ∀ c k : Int, cf m [.int c, .int k] = some (.int (mixed c k), [])) : runD cf (fdNames m) [.int c] = some (.lst ((namesOf c).map fun l => .str (tx l)), []) := by
  rw [runD_eq rfl]
  have hr : iterD .range [.int (mixed c 99 % 8)] = some (rangeD 0 1 (mixed c 99 % 8).toNat) := it_rangeI (by omega) (by omega)
  have hst : stemOf c = (List.range (mixed c 99 % 8).toNat).map fun (k : Nat) => let26 (mixed c (90 + (k : Int))) := rfl
  have stem : sem2 .join (.str (tx [])) (.lst ((List.range (mixed c 99 % 8).toNat).map fun (k : Nat) => D.str (tx [let26 (mixed c (90 + (k : Int)))]))) = some (.str (tx (stemOf c))) := by
    have := s_join0 (L := (List.range (mixed c 99 % 8).toNat).map fun (k : Nat) => [let26 (mixed c (90 + (k : Int)))]) (by
      rw [List.map_map]
      have : (List.map (List.length ∘ fun (k : Nat) => [let26 (mixed c (90 + (k : Int)))]) (List.range (mixed c 99 % 8).toNat)) = (List.range (mixed c 99 % 8).toNat).map fun _ => 1 := List.map_congr_left fun _ _ => rfl
      rw [this, sum_ones]
      simp [BIG]
      omega)
    rw [List.map_map] at this
    have e : (List.map (fun (k : Nat) => [let26 (mixed c (90 + (k : Int)))]) (List.range (mixed c 99 % 8).toNat)).flatten = stemOf c := by
      rw [hst]
      generalize List.range (mixed c 99 % 8).toNat = l
      induction l with
      | nil => rfl
      | cons x r ih => simp [ih]
    rw [e] at this
    exact this
  have comp1 : compL (stepC cf [some (.int c), some (.str (tx alpha)), some (.int (mixed c 99)), none, none, none, none] (.op2 .ix (.var 1) (.op2 .mod (.call m [(.var 0), (.op2 .add (.lit (.int 90)) (.var 6))]) (.lit (.int 26)))) (.name 6) []) (rangeD 0 1 (mixed c 99 % 8).toNat) =
      some ((List.range (mixed c 99 % 8).toNat).map fun (k : Nat) => D.str (tx [let26 (mixed c (90 + (k : Int)))])) := by
    rw [rangeD_map]
    exact compL_on fun k _ => by simp [stepC, hm, s_mod26, s_let]
  have hB : (rangeD 0 1 (mixed c 99 % 8).toNat).length ≤ BIG := by rw [rangeD_len]; have := Int.emod_lt_of_pos (mixed c 99) (show (0 : Int) < 8 by decide); unfold BIG; omega
  have hl := stem_len c
  have lenS : sem1 .len (.str (tx (stemOf c))) = some (.int ((stemOf c).length : Nat)) := by rw [s_lenS (by rw [tx_len]; unfold BIG; omega), tx_len]
  have atE : sem2 .mod (.int (mixed c 99 / 8)) (.int ((stemOf c).length + 1)) = some (.int (atOf c)) := by
    rw [s_mod (by omega)]
    have := Int.emod_nonneg (mixed c 99 / 8) (show ((stemOf c).length + 1 : Int) ≠ 0 by omega)
    congr 2
    unfold atOf
    omega
  have d8 : sem2 .fdiv (.int (mixed c 99)) (.int 8) = some (.int (mixed c 99 / 8)) := s_fdiv (by decide) (by decide)
  have d72 : sem2 .fdiv (.int (mixed c 99)) (.int 72) = some (.int (mixed c 99 / 72)) := s_fdiv (by decide) (by decide)
  have m3 : sem2 .mod (.int (mixed c 99)) (.int 3) = some (.int (mixed c 99 % 3)) := s_mod (by decide)
  have sl1 : sliceSem (.str (tx (stemOf c))) (some (atOf c : Int)) none = some (.str (tx ((stemOf c).drop (atOf c)))) := by
    rw [s_sliceS (by unfold BIG; omega), cutL_from _ (by omega)]; rfl
  have sl2 : sliceSem (.str (tx (stemOf c))) none (some (atOf c : Int)) = some (.str (tx ((stemOf c).take (atOf c)))) := by
    rw [s_sliceS (by unfold BIG; omega), cutL_to _ (by omega)]; rfl
  have mulE : sem2 .mul (.str (tx ((stemOf c).drop (atOf c)))) (.int (if decide (0 < mixed c 99 % 3) = true then 1 else 0)) = some (.str (tx (if decide (0 < mixed c 99 % 3) = true then (stemOf c).drop (atOf c) else []))) := s_mulS (by simp; omega)
  have comp2 : compL (stepC cf [some (.int c), some (.str (tx alpha)), some (.int (mixed c 99)), some (.str (tx (stemOf c))), some (.int (atOf c)), some (.lst [.str (tx ((stemOf c).drop (atOf c))), .str (tx (if decide (0 < mixed c 99 % 3) = true then (stemOf c).drop (atOf c) else []))]), none]
      (.op2 .add (.op2 .add (.slice (.var 3) none (some (.var 4))) (.op2 .ix (.var 1) (.op2 .mod (.op2 .add (.op2 .fdiv (.var 2) (.lit (.int 72))) (.op2 .mul (.lit (.int 5)) (.var 6))) (.lit (.int 26))))) (.op2 .ix (.var 5) (.op2 .mod (.var 6) (.lit (.int 2))))) (.name 6) []) (rangeD 0 1 5) = some ((namesOf c).map fun l => .str (tx l)) := by
    rw [rangeD_map]
    unfold namesOf
    rw [List.map_map]
    refine compL_on fun k hk => ?_
    have hk5 : k < 5 := List.mem_range.mp hk
    have m5 : sem2 .mul (.int 5) (.int (k : Int)) = some (.int (5 * k)) := s_mul (mulOk_l (by decide))
    have ix2 : ((sem2 .mod (.int (k : Int)) (.int 2)).bind fun y => sem2 .ix (.lst [.str (tx ((stemOf c).drop (atOf c))), .str (tx (if decide (0 < mixed c 99 % 3) = true then (stemOf c).drop (atOf c) else []))]) y) = some (.str (tx (endOf c k))) := by
      rw [s_mod (by decide), Option.bind_some]
      have h2 : k % 2 = 0 ∨ k % 2 = 1 := by omega
      rcases h2 with h2 | h2
      · have : (k : Int) % 2 = 0 := by omega
        rw [this, s_ixL (x := .str (tx ((stemOf c).drop (atOf c)))) (by decide) rfl]
        unfold endOf
        rw [if_pos (.inl h2)]
      · have : (k : Int) % 2 = 1 := by omega
        rw [this, s_ixL (x := .str (tx (if decide (0 < mixed c 99 % 3) = true then (stemOf c).drop (atOf c) else []))) (by decide) rfl]
        unfold endOf
        by_cases q : 0 < mixed c 99 % 3
        · rw [if_pos (by simpa using q), if_pos (.inr q)]
        · rw [if_neg (by simpa using q), if_neg (by simp [h2]; omega)]
    have a1 : sem2 .add (.str (tx ((stemOf c).take (atOf c)))) (.str (tx [let26 (mixed c 99 / 72 + 5 * k)])) = some (.str (tx ((stemOf c).take (atOf c) ++ [let26 (mixed c 99 / 72 + 5 * k)]))) := s_addS (by simp [BIG]; omega)
    have a2 : sem2 .add (.str (tx ((stemOf c).take (atOf c) ++ [let26 (mixed c 99 / 72 + 5 * k)]))) (.str (tx (endOf c k))) = some (.str (tx (nameOf c k))) := by
      rw [s_addS]
      · rfl
      · have := (name_ok c k).2.1
        unfold nameOf at this
        rw [List.length_append] at this
        unfold BIG; omega
    simp only [stepC, b_name, List.set_cons_zero, List.set_cons_succ, Option.bind_some, cs_nil, if_true, e_op2, e_slice, e_var, e_lit, look_0, look_s, o_none, o_some, asI_some, Option.map_some, sl2, d72, m5, s_add, s_mod26, s_let, a1, ix2, a2]
    rfl
  have hr5 : iterD .range [.int 5] = some (rangeD 0 1 5) := rfl
  have hB5 : (rangeD 0 1 5).length ≤ BIG := by rw [rangeD_len]; decide
  simp only [fdNames, List.map_cons, List.map_nil, List.length_cons, List.length_nil, List.cons_append, List.nil_append, List.replicate, xs_cons, xs_nil, x_asg, x_ret, e_lit, e_var, e_op1, e_op2, e_call, e_comp, e_lst, e_slice, o_none, o_some, asI_some, es_cons, es_nil, look_0, look_s, Option.bind_some, Option.map_some, List.set_cons_zero, List.set_cons_succ, thenF_nxt, thenF_ret, abc_tx, nil_tx, hm, m_m8, hr, if_pos hB, comp1, stem, d8, lenS, s_add, atE, sl1, m3, s_gt, s_int_b, mulE, hr5, if_pos hB5, comp2]
  rfl
end
end PyI
end

section
set_option maxRecDepth 100000
set_option maxHeartbeats 4000000
namespace PyI
open PySem
def fdWhole : FDef := { name := "is_whole", ps := ["thing"], N := ["thing"], dfl := [], cls := [.F], io := [], fresh := false, body := [
  .ret (.and_ (.isi (.var 0) .int) (.op1 .not_ (.isi (.var 0) .bool)))] }
def fdName : FDef := { name := "is_name", ps := ["thing"], N := ["thing", "letter"], dfl := [], cls := [.F], io := [], fresh := false, body := [
  .iff (.or_ (.op1 .not_ (.isi (.var 0) .str)) (.op1 .not_ (.cmp2 .le .le (.lit (.int 1)) (.op1 .len (.var 0)) (.glb "MOST_LETTERS" (.int 8))))) [.ret (.lit (.bl false))] [],
  .ret (.op1 .all_ (.comp (.op2 .isin (.var 1) (.glb "LETTERS" (.str "abcdefghijklmnopqrstuvwxyz"))) (.name 1) .of [(.var 0)] []))] }
def fdPart (w nm : Nat) : FDef := { name := "is_part", ps := ["thing"], N := ["thing"], dfl := [], cls := [.F], io := [], fresh := false, body := [
  .iff (.or_ (.op1 .not_ (.isi (.var 0) .tuple)) (.op2 .ne (.op1 .len (.var 0)) (.lit (.int 2)))) [.ret (.lit (.bl false))] [],
  .ret (.and_ (.call nm [(.op2 .ix (.var 0) (.lit (.int 0)))]) (.and_ (.call w [(.op2 .ix (.var 0) (.lit (.int 1)))]) (.op2 .gt (.op2 .ix (.var 0) (.lit (.int 1))) (.lit (.int 0)))))] }
section
variable {cf : CF}
def wholeB : D → Bool
  | .int _ => true
  | _ => false
theorem run_whole {d : D} : runD cf fdWhole [d] = some (.bl (wholeB d), []) := by
  cases d <;> rfl
def txOk (d : D) : Prop := ∀ s, d = .str s → s.length ≤ BIG
def nmBl (l : List Nat) : Bool := decide (1 ≤ l.length) && decide (l.length ≤ 8) && l.all fun c => decide (97 ≤ c) && decide (c ≤ 122)
theorem nmB_ok {l : List Nat} : nmBl l = true ↔ nmOk l := by
  unfold nmBl nmOk
  simp only [Bool.and_eq_true, decide_eq_true_eq, List.all_eq_true]
  exact ⟨fun ⟨⟨a, b⟩, c⟩ => ⟨a, b, c⟩, fun ⟨a, b, c⟩ => ⟨⟨a, b⟩, c⟩⟩
def nameB : D → Bool
  | .str s => nmBl s.cps.toList
  | _ => false
theorem alpha_dec (c : Nat) : decide (c ∈ alpha) = (decide (97 ≤ c) && decide (c ≤ 122)) := by
  rw [Bool.eq_iff_iff, Bool.and_eq_true, decide_eq_true_eq, decide_eq_true_eq, decide_eq_true_eq]
  exact alpha_mem
theorem run_name {d : D} (h : txOk d) : runD cf fdName [d] = some (.bl (nameB d), []) := by
  rw [runD_eq rfl]
  cases d with
  | str s =>
    have hB := h s rfl
    rw [tx_of s] at hB ⊢
    generalize s.cps.toList = l at hB ⊢
    have lenS : sem1 .len (.str (tx l)) = some (.int (l.length : Nat)) := by rw [s_lenS hB, tx_len]
    rw [tx_len] at hB
    have comp : compL (stepC cf [some (.str (tx l)), none] (.op2 .isin (.var 1) (.glb "LETTERS" (.str "abcdefghijklmnopqrstuvwxyz"))) (.name 1) []) (l.map fun c => D.str (tx [c])) = some (l.map fun c => D.bl (decide (97 ≤ c) && decide (c ≤ 122))) :=
      compL_on fun c _ => by simp [stepC, abc_tx, s_inS, alpha_dec]
    have it : iterD .of [.str (tx l)] = some (l.map fun c => D.str (tx [c])) := by
      show some (chars (tx l)) = _
      rw [chars_tx]
    have hL : (l.map fun c => D.str (tx [c])).length ≤ BIG := by simpa using hB
    have al : sem1 .all_ (.lst (l.map fun c => D.bl (decide (97 ≤ c) && decide (c ≤ 122)))) = some (.bl (l.all fun c => decide (97 ≤ c) && decide (c ≤ 122))) := by
      have := s_all (bs := l.map fun c => decide (97 ≤ c) && decide (c ≤ 122))
      rw [List.map_map] at this
      rw [show (l.map fun c => D.bl (decide (97 ≤ c) && decide (c ≤ 122))) = l.map (D.bl ∘ fun c => decide (97 ≤ c) && decide (c ≤ 122)) from rfl, this, List.all_map]
      rfl
    have e : nameB (.str (tx l)) = nmBl l := by show nmBl (tx l).cps.toList = _; rw [tx_toList]
    rw [e]
    by_cases h1 : 1 ≤ l.length
    · by_cases h8 : l.length ≤ 8
      · have h1' : (1 : Int) ≤ (l.length : Nat) := by omega
        have h8' : ((l.length : Nat) : Int) ≤ 8 := by omega
        simp only [fdName, List.map_cons, List.map_nil, List.length_cons, List.length_nil, List.cons_append, List.nil_append, List.replicate, xs_cons, xs_nil, x_iff, x_ret, e_or, e_op1, e_isi, e_cmp2, e_comp, e_var, e_lit, e_glb, es_cons, es_nil, look_0, look_s, Option.bind_some, Option.map_some, ofTy, s_notB, asB_some, Bool.not_true, Bool.false_eq_true, if_false, lenS, s_le, h1', h8', decide_true, if_true, thenF_nxt, thenF_ret, it, if_pos hL, comp, al, outF_ret]
        unfold nmBl
        simp [h1, h8]
      · have h1' : (1 : Int) ≤ (l.length : Nat) := by omega
        have h8' : ¬ ((l.length : Nat) : Int) ≤ 8 := by omega
        simp [fdName, ofTy, lenS, h1', h8', nmBl, h8]
    · have h1' : ¬ (1 : Int) ≤ (l.length : Nat) := by omega
      simp [fdName, ofTy, lenS, h1', nmBl, h1]
  | _ => simp [fdName, ofTy, nameB]
def partB : D → Bool
  | .tup [a, .int i] => nameB a && decide (0 < i)
  | _ => false
theorem s_neLen {n : Nat} : sem2 .ne (.int n) (.int 2) = some (.bl (decide (n ≠ 2))) := by
  rw [s_neI]
  congr 2
  rw [Bool.eq_iff_iff, decide_eq_true_eq, decide_eq_true_eq]
  omega
theorem run_part {w nm : Nat} {d : D} (hw : ∀ d, cf w [d] = some (.bl (wholeB d), [])) (hn : ∀ d, txOk d → cf nm [d] = some (.bl (nameB d), [])) (h : ∀ a b, d = .tup [a, b] → txOk a) : runD cf (fdPart w nm) [d] = some (.bl (partB d), []) := by
  rw [runD_eq rfl]
  cases d with
  | tup xs =>
    match xs, h with
    | [], _ => simp [fdPart, ofTy, partB]
    | [_], _ => simp [fdPart, ofTy, partB]
    | _ :: _ :: _ :: r, _ =>
      have hne : ¬ ((r.length : Int) + 1 + 1 + 1 = 2) := by omega
      simp [fdPart, ofTy, partB, hne]
    | [a, b], h =>
      have ha := hn a (h a b rfl)
      cases hA : nameB a with
      | false =>
        cases b <;> simp [fdPart, ofTy, partB, ha, hA, hw]
      | true =>
        cases b <;> simp [fdPart, ofTy, partB, ha, hA, hw, wholeB]
  | _ => simp [fdPart, ofTy, partB]
/-! is_length -/
def fdLength (w p : Nat) : FDef := { name := "is_length", ps := ["thing"], N := ["thing", "k", "part"], dfl := [], cls := [.F], io := [], fresh := false, body := [
  .iff (.or_ (.op1 .not_ (.isi (.var 0) .tuple)) (.or_ (.op2 .ne (.op1 .len (.var 0)) (.lit (.int 2))) (.op1 .not_ (.isi (.op2 .ix (.var 0) (.lit (.int 1))) .tuple)))) [.ret (.lit (.bl false))] [],
  .iff (.or_ (.op1 .not_ (.call w [(.op2 .ix (.var 0) (.lit (.int 0)))])) (.or_ (.op2 .lt (.op2 .ix (.var 0) (.lit (.int 0))) (.lit (.int 0))) (.op1 .not_ (.op1 .all_ (.comp (.call p [(.var 2)]) (.name 2) .of [(.op2 .ix (.var 0) (.lit (.int 1)))] []))))) [.ret (.lit (.bl false))] [],
  .ret (.op1 .all_ (.comp (.op2 .lt (.op2 .ix (.op2 .ix (.op2 .ix (.var 0) (.lit (.int 1))) (.op2 .sub (.var 1) (.lit (.int 1)))) (.lit (.int 0))) (.op2 .ix (.op2 .ix (.op2 .ix (.var 0) (.lit (.int 1))) (.var 1)) (.lit (.int 0)))) (.name 1) .range [(.lit (.int 1)), (.op1 .len (.op2 .ix (.var 0) (.lit (.int 1))))] []))] }
abbrev Part := List Nat × Int
def partD (q : Part) : D := .tup [.str (tx q.1), .int q.2]
def partsD (L : List Part) : List D := L.map partD
def lenD (n : Int) (L : List Part) : D := .tup [.int n, .tup (partsD L)]
def rising : List Part → Bool
  | [] => true
  | [_] => true
  | x :: y :: r => decide (x.1 < y.1) && rising (y :: r)
def nthN (L : List Part) (i : Nat) : List Nat := (L.getD i ([], 0)).1
theorem rising_ix : ∀ L : List Part, rising L = (List.range (L.length - 1)).all fun i => decide (nthN L i < nthN L (i + 1))
  | [] => rfl
  | [_] => rfl
  | x :: y :: r => by
    have ih := rising_ix (y :: r)
    rw [rising, ih]
    simp only [List.length_cons, Nat.add_sub_cancel]
    rw [List.range_succ_eq_map, List.all_cons, List.all_map]
    rfl
theorem parts_all {ps : List D} (h : ps.all partB = true) : ∃ L : List Part, ps = partsD L ∧ ∀ q ∈ L, nmOk q.1 ∧ 0 < q.2 := by
  induction ps with
  | nil => exact ⟨[], rfl, by simp⟩
  | cons p r ih =>
    rw [List.all_cons, Bool.and_eq_true] at h
    obtain ⟨L, e, hL⟩ := ih h.2
    have hp := h.1
    unfold partB at hp
    split at hp
    · rename_i a i
      rw [Bool.and_eq_true, decide_eq_true_eq] at hp
      cases a with
      | str s =>
        have hn : nmOk s.cps.toList := nmB_ok.mp hp.1
        refine ⟨(s.cps.toList, i) :: L, ?_, ?_⟩
        · rw [e]
          show _ = partD (s.cps.toList, i) :: partsD L
          unfold partD
          rw [← tx_of s]
        · intro q hq
          rcases List.mem_cons.mp hq with rfl | hq
          · exact ⟨hn, hp.2⟩
          · exact hL q hq
      | _ => cases hp.1
    · cases hp
theorem partsD_get {L : List Part} {i : Nat} (h : i < L.length) : (partsD L)[i]? = some (partD (L[i])) := by simp [partsD, h]
theorem s_ltS {a b : List Nat} : sem2 .lt (.str (tx a)) (.str (tx b)) = some (.bl (decide (a < b))) := by
  show some (D.bl (decide ((tx a).cps.toList < (tx b).cps.toList))) = _
  rw [tx_toList, tx_toList]
theorem it_range2 {a b : Int} (h1 : -4611686018427387904 ≤ a) (h2 : a < 4611686018427387904) (h3 : -4611686018427387904 ≤ b) (h4 : b < 4611686018427387904) : iterD .range [.int a, .int b] = some (rangeD a 1 (b - a).toNat) := by
  show (if (small62 a && small62 b) = true then some (rangeD a 1 (b - a).toNat) else none) = _
  rw [if_pos (by simp [small62]; omega)]
theorem comp_rising {cf : CF} {n : Int} {L : List Part} {x : Option D} {y : Option D} : compL (stepC cf [some (lenD n L), x, y] (.op2 .lt (.op2 .ix (.op2 .ix (.op2 .ix (.var 0) (.lit (.int 1))) (.op2 .sub (.var 1) (.lit (.int 1)))) (.lit (.int 0))) (.op2 .ix (.op2 .ix (.op2 .ix (.var 0) (.lit (.int 1))) (.var 1)) (.lit (.int 0)))) (.name 1) []) (rangeD 1 1 (L.length - 1)) =
    some ((List.range (L.length - 1)).map fun i => D.bl (decide (nthN L i < nthN L (i + 1)))) := by
  unfold rangeD
  refine compL_on (e := fun (i : Nat) => D.int (1 + (i : Int) * 1)) fun i hi => ?_
  have hi' : i < L.length - 1 := List.mem_range.mp hi
  have e1 : sem2 .ix (.tup (partsD L)) (.int (1 + (i : Int) * 1 - 1)) = some (partD (L[i])) := s_ixT (by omega) (by rw [show (1 + (i : Int) * 1 - 1).toNat = i by omega]; exact partsD_get (by omega))
  have e2 : sem2 .ix (.tup (partsD L)) (.int (1 + (i : Int) * 1)) = some (partD (L[i + 1])) := s_ixT (by omega) (by rw [show (1 + (i : Int) * 1).toNat = i + 1 by omega]; exact partsD_get (by omega))
  have e3 : nthN L i = (L[i]).1 := by simp [nthN, List.getD, show i < L.length by omega]
  have e4 : nthN L (i + 1) = (L[i + 1]).1 := by simp [nthN, List.getD, show i + 1 < L.length by omega]
  have t0 : ∀ q : Part, sem2 .ix (partD q) (.int 0) = some (.str (tx q.1)) := fun q => s_ixT0
  have t1 : sem2 .ix (lenD n L) (.int 1) = some (.tup (partsD L)) := s_ixT1
  simp only [stepC, b_name, List.set_cons_zero, List.set_cons_succ, Option.bind_some, cs_nil, if_true, e_op2, e_var, e_lit, look_0, look_s, t1, s_sub, e1, e2, t0, s_ltS, e3, e4, Option.map_some]
def wellB : D → Bool
  | .tup [.int n, .tup ps] => decide (0 ≤ n) && ps.all partB
  | _ => false
def partsTx (d : D) : Prop := ∀ x ps, d = .tup [x, .tup ps] → ps.length ≤ BIG ∧ ∀ a b, D.tup [a, b] ∈ ps → txOk a
theorem all_parts {p : Nat} {x : Option D} {y z : D} {ps : List D} (hp : ∀ d, (∀ a b, d = .tup [a, b] → txOk a) → cf p [d] = some (.bl (partB d), [])) (h : ∀ a b, D.tup [a, b] ∈ ps → txOk a) : compL (stepC cf [some z, x, some y] (.call p [(.var 2)]) (.name 2) []) ps = some (ps.map fun d => D.bl (partB d)) ∧
    compL (stepC cf [some z, x, none] (.call p [(.var 2)]) (.name 2) []) ps = some (ps.map fun d => D.bl (partB d)) := by
  constructor
  · refine compL_map fun d hd => ?_
    have := hp d fun a b e => h a b (by rw [← e]; exact hd)
    simp [stepC, this]
  · refine compL_map fun d hd => ?_
    have := hp d fun a b e => h a b (by rw [← e]; exact hd)
    simp [stepC, this]
theorem all_bl (f : D → Bool) (ps : List D) : sem1 .all_ (.lst (ps.map fun d => D.bl (f d))) = some (.bl (ps.all f)) := by
  have := s_all (bs := ps.map f)
  rw [List.map_map] at this
  rw [show (ps.map fun d => D.bl (f d)) = ps.map (D.bl ∘ f) from rfl, this, List.all_map]
  rfl
theorem all_blN (f : Nat → Bool) (ps : List Nat) : sem1 .all_ (.lst (ps.map fun d => D.bl (f d))) = some (.bl (ps.all f)) := by
  have := s_all (bs := ps.map f)
  rw [List.map_map] at this
  rw [show (ps.map fun d => D.bl (f d)) = ps.map (D.bl ∘ f) from rfl, this, List.all_map]
  rfl
theorem run_length_no {w p : Nat} {d : D} (hw : ∀ d, cf w [d] = some (.bl (wholeB d), [])) (hp : ∀ d, (∀ a b, d = .tup [a, b] → txOk a) → cf p [d] = some (.bl (partB d), [])) (ht : partsTx d) (h : wellB d = false) : runD cf (fdLength w p) [d] = some (.bl false, []) := by
  rw [runD_eq rfl]
  cases d with
  | tup xs =>
    match xs, ht, h with
    | [], _, _ => simp [fdLength, ofTy]
    | [_], _, _ => simp [fdLength, ofTy]
    | _ :: _ :: _ :: r, _, _ =>
      have hne : ¬ ((r.length : Int) + 1 + 1 + 1 = 2) := by omega
      simp [fdLength, ofTy, hne]
    | [x, y], ht, h =>
      cases y with
      | tup ps =>
        obtain ⟨hB, hT⟩ := ht x ps rfl
        cases x with
        | int n =>
          by_cases hn : n < 0
          · simp [fdLength, ofTy, hw, wholeB, hn]
          · have hall : ps.all partB = false := by
              have h' : (decide (0 ≤ n) && ps.all partB) = false := h
              rw [decide_eq_true (by omega), Bool.true_and] at h'
              exact h'
            have it : iterD .of [.tup ps] = some ps := rfl
            have ln : sem1 .len (.tup [.int n, .tup ps]) = some (.int 2) := rfl
            simp only [fdLength, List.map_cons, List.map_nil, List.length_cons, List.length_nil, List.cons_append, List.nil_append, List.replicate, xs_cons, xs_nil, x_iff, x_ret, e_or, e_op1, e_op2, e_isi, e_call, e_comp, e_var, e_lit, es_cons, es_nil, look_0, look_s, Option.bind_some, Option.map_some, ofTy, s_notB, asB_some, Bool.not_true, Bool.false_eq_true, if_false, ln, s_neI, ne_eq, not_true_eq_false, decide_false, s_ixT0, s_ixT1, thenF_nxt, hw, wholeB, s_lt, hn, decide_false, it, if_pos hB, (all_parts (x := none) (y := .non) hp hT).2, all_bl, hall, Bool.not_false, if_true, thenF_ret, outF_ret]
        | _ => simp [fdLength, ofTy, hw, wholeB]
      | _ => simp [fdLength, ofTy]
  | _ => simp [fdLength, ofTy]
theorem run_length {w p : Nat} {n : Int} {L : List Part} (hw : ∀ d, cf w [d] = some (.bl (wholeB d), [])) (hp : ∀ d, (∀ a b, d = .tup [a, b] → txOk a) → cf p [d] = some (.bl (partB d), [])) (hn : 0 ≤ n) (hB : L.length ≤ BIG) (hL : ∀ q ∈ L, nmOk q.1 ∧ 0 < q.2) : runD cf (fdLength w p) [lenD n L] = some (.bl (rising L), []) := by
  rw [runD_eq rfl]
  have hT : ∀ a b, D.tup [a, b] ∈ partsD L → txOk a := by
    intro a b h
    unfold partsD at h
    obtain ⟨q, hq, e⟩ := List.mem_map.mp h
    unfold partD at e
    injection e with e
    injection e with e1 e2
    subst e1
    intro s hs
    cases hs
    rw [tx_len]
    have := (hL q hq).1.2.1
    unfold BIG; omega
  have hB' : (partsD L).length ≤ BIG := by simpa [partsD] using hB
  have hall : (partsD L).all partB = true := by
    rw [List.all_eq_true]
    intro d hd
    unfold partsD at hd
    obtain ⟨q, hq, rfl⟩ := List.mem_map.mp hd
    have h1 := hL q hq
    have : nameB (.str (tx q.1)) = true := by show nmBl (tx q.1).cps.toList = true; rw [tx_toList]; exact nmB_ok.mpr h1.1
    show (nameB (.str (tx q.1)) && decide (0 < q.2)) = true
    rw [this, decide_eq_true h1.2]; rfl
  have it : iterD .of [.tup (partsD L)] = some (partsD L) := rfl
  have t0 : sem2 .ix (lenD n L) (.int 0) = some (.int n) := s_ixT0
  have t1 : sem2 .ix (lenD n L) (.int 1) = some (.tup (partsD L)) := s_ixT1
  have ln : sem1 .len (lenD n L) = some (.int 2) := rfl
  have hn' : ¬ n < 0 := by omega
  have lp : sem1 .len (.tup (partsD L)) = some (.int (L.length : Nat)) := by rw [s_lenT]; simp [partsD]
  have hr : iterD .range [.int 1, .int (L.length : Nat)] = some (rangeD 1 1 (L.length - 1)) := by
    have e : ((L.length : Int) - 1).toNat = L.length - 1 := by omega
    rw [it_range2 (by decide) (by decide) (by omega) (by unfold BIG at hB; omega), e]
  have hR : (rangeD 1 1 (L.length - 1)).length ≤ BIG := by rw [rangeD_len]; omega
  obtain ⟨m, hm⟩ : ∃ m : Int, m = (L.length : Nat) := ⟨_, rfl⟩
  rw [← hm] at lp hr
  have ty : ofTy .tuple (lenD n L) = true := rfl
  have ty2 : ofTy .tuple (.tup (partsD L)) = true := rfl
  have c1 := (all_parts (cf := cf) (p := p) (x := none) (y := .non) (z := lenD n L) hp hT).2
  have c2 := comp_rising (cf := cf) (n := n) (L := L) (x := none) (y := none)
  have a1 := all_bl partB (partsD L)
  have a2 := all_blN (fun i => decide (nthN L i < nthN L (i + 1))) (List.range (L.length - 1))
  rw [hall] at a1
  rw [← rising_ix] at a2
  generalize lenD n L = z at *
  generalize partsD L = ps at *
  generalize rangeD 1 1 (L.length - 1) = rs at *
  have h2 : (decide ((2 : Int) ≠ 2)) = false := by decide
  have r3 : execS cf [some z, none, none] (.ret (.op1 .all_ (.comp (.op2 .lt (.op2 .ix (.op2 .ix (.op2 .ix (.var 0) (.lit (.int 1))) (.op2 .sub (.var 1) (.lit (.int 1)))) (.lit (.int 0))) (.op2 .ix (.op2 .ix (.op2 .ix (.var 0) (.lit (.int 1))) (.var 1)) (.lit (.int 0)))) (.name 1) .range [(.lit (.int 1)), (.op1 .len (.op2 .ix (.var 0) (.lit (.int 1))))] []))) = some (.ret (.bl (rising L)) [some z, none, none]) := by
    rw [x_ret, e_op1, e_comp, es_cons, es_cons, es_nil, e_lit, Option.bind_some, e_op1, e_op2, e_var, e_lit, look_0, Option.bind_some, Option.bind_some, t1, Option.bind_some, lp, Option.bind_some, Option.map_some, Option.map_some, Option.bind_some, hr, Option.bind_some, if_pos hR, c2, Option.map_some, Option.bind_some, a2, Option.map_some]
  have r1 : execS cf [some z, none, none] (.iff (.or_ (.op1 .not_ (.isi (.var 0) .tuple)) (.or_ (.op2 .ne (.op1 .len (.var 0)) (.lit (.int 2))) (.op1 .not_ (.isi (.op2 .ix (.var 0) (.lit (.int 1))) .tuple)))) [.ret (.lit (.bl false))] []) = some (.nxt [some z, none, none]) := by
    simp only [x_iff, x_ret, e_or, e_op1, e_isi, e_call, e_comp, e_var, e_lit, es_cons, es_nil, look_0, look_s, Option.bind_some, Option.map_some, ty, ty2, s_notB, asB_some, Bool.not_true, Bool.false_eq_true, if_false, ln, e_op2, t0, t1, s_neI, h2, hw, wholeB, s_lt, hn', decide_false, it, if_pos hB', c1, a1, xs_nil]
  have r2 : execS cf [some z, none, none] (.iff (.or_ (.op1 .not_ (.call w [(.op2 .ix (.var 0) (.lit (.int 0)))])) (.or_ (.op2 .lt (.op2 .ix (.var 0) (.lit (.int 0))) (.lit (.int 0))) (.op1 .not_ (.op1 .all_ (.comp (.call p [(.var 2)]) (.name 2) .of [(.op2 .ix (.var 0) (.lit (.int 1)))] []))))) [.ret (.lit (.bl false))] []) = some (.nxt [some z, none, none]) := by
    simp only [x_iff, x_ret, e_or, e_op1, e_isi, e_call, e_comp, e_var, e_lit, es_cons, es_nil, look_0, look_s, Option.bind_some, Option.map_some, ty, ty2, s_notB, asB_some, Bool.not_true, Bool.false_eq_true, if_false, ln, e_op2, t0, t1, s_neI, h2, hw, wholeB, s_lt, hn', decide_false, it, if_pos hB', c1, a1, xs_nil]
  show (execSs cf [some z, none, none] (fdLength w p).body).bind (outF []) = _
  rw [fdLength]
  simp only []
  rw [xs_cons, r1, Option.bind_some, thenF_nxt, xs_cons, r2, Option.bind_some, thenF_nxt, xs_cons, r3, Option.bind_some, thenF_ret, Option.bind_some, outF_ret]
def fdNamesOf : FDef := { name := "names_of", ps := ["a"], N := ["a", "name", "times"], dfl := [], cls := [.F], io := [], fresh := false, body := [
  .ret (.comp (.var 1) (.tup [1, 2]) .of [(.op2 .ix (.var 0) (.lit (.int 1)))] [])] }
theorem run_namesOf {n : Int} {L : List Part} (hB : L.length ≤ BIG) : runD cf fdNamesOf [lenD n L] = some (.lst (L.map fun q => .str (tx q.1)), []) := by
  have c : compL (stepC cf [some (lenD n L), none, none] (.var 1) (.tup [1, 2]) []) (partsD L) = some (L.map fun q => .str (tx q.1)) := by
    refine compL_on (e := partD) fun q _ => ?_
    unfold partD
    simp [stepC]
  have t1 : sem2 .ix (lenD n L) (.int 1) = some (.tup (partsD L)) := s_ixT1
  have it : iterD .of [.tup (partsD L)] = some (partsD L) := rfl
  have hB' : (partsD L).length ≤ BIG := by simpa [partsD] using hB
  have r1 : execS cf [some (lenD n L), none, none] (.ret (.comp (.var 1) (.tup [1, 2]) .of [(.op2 .ix (.var 0) (.lit (.int 1)))] [])) = some (.ret (.lst (L.map fun q => .str (tx q.1))) [some (lenD n L), none, none]) := by
    rw [x_ret, e_comp, es_cons, es_nil, e_op2, e_var, e_lit, look_0, Option.bind_some, Option.bind_some, t1, Option.bind_some, Option.map_some, Option.bind_some, it, Option.bind_some, if_pos hB', c, Option.map_some, Option.map_some]
  rw [runD_eq rfl]
  show (execSs cf [some (lenD n L), none, none] [_]).bind (outF []) = _
  rw [xs_cons, r1, Option.bind_some, thenF_ret, Option.bind_some, outF_ret]
end
end PyI
end

section
set_option maxRecDepth 100000
set_option maxHeartbeats 4000000
namespace PyI
open PySem
theorem toPy_part (q : Part) : toPy (partD q) = .tuple [.str (tx q.1), .int q.2] := rfl
theorem sortOk_parts (L : List Part) : sortOk (partsD L) = true := by
  unfold sortOk
  have h1 : (partsD L).all (fun a => (partsD L).all fun b => PySem.W.alike (toPy a) (toPy b)) = true := by
    rw [List.all_eq_true]
    intro a ha
    rw [List.all_eq_true]
    intro b hb
    unfold partsD at ha hb
    obtain ⟨p, _, rfl⟩ := List.mem_map.mp ha
    obtain ⟨q, _, rfl⟩ := List.mem_map.mp hb
    rfl
  have h3 : (partsD L).all (fun a => plainD a && decide ((toPy a).depth ≤ 50)) = true := by
    rw [List.all_eq_true]
    intro a ha
    unfold partsD at ha
    obtain ⟨p, _, rfl⟩ := List.mem_map.mp ha
    rfl
  rw [h1, h3]
  simp only [Bool.true_and, Bool.and_true, Bool.or_eq_true, List.all_eq_true]
  left
  intro a ha
  unfold partsD at ha
  obtain ⟨p, _, rfl⟩ := List.mem_map.mp ha
  rfl
def partLe (p q : Part) : Bool := PySem.W.dataLe false toPy (partD p) (partD q)
theorem sortD_parts (L : List Part) : sortD (partsD L) = some (partsD (L.mergeSort partLe)) := by
  unfold sortD
  rw [if_pos (sortOk_parts L)]
  congr 1
  unfold partsD
  exact congrArg D.tup (List.map_mergeSort (r := partLe) (s := PySem.W.dataLe false toPy) (f := partD) (l := L) fun a _ b _ => rfl).symm |> fun h => by injection h
theorem partLe_eq (p q : Part) : partLe p q = decide (p.1 < q.1 ∨ (p.1 = q.1 ∧ p.2 ≤ q.2)) := by
  unfold partLe
  rw [PySem.W.dataLe_eq]
  show (!PySem.W.dataLt (.tuple [.str (tx q.1), .int q.2]) (.tuple [.str (tx p.1), .int p.2])) = _
  rw [PySem.W.dataLt_pair rfl rfl, PySem.W.dataLt_int, PySem.W.dataLt_str, tx_toList, tx_toList]
  have hs : PyData.eqv (.str (tx q.1)) (.str (tx p.1)) = decide (p.1 = q.1) := by
    show (tx q.1 == tx p.1) = _
    rw [Bool.eq_iff_iff, beq_iff_eq, decide_eq_true_eq]
    constructor
    · intro h
      have := congrArg (fun s : Str => s.cps.toList) h
      simp only [tx_toList] at this
      exact this.symm
    · intro h; rw [h]
  have hi : PyData.eqv (.int q.2) (.int p.2) = decide (p.2 = q.2) := by
    show (q.2 == p.2) = _
    rw [Bool.eq_iff_iff, beq_iff_eq, decide_eq_true_eq]
    exact eq_comm
  rw [hs, hi]
  by_cases e : p.1 = q.1
  · rw [if_pos (by simpa using e)]
    have n : ¬ p.1 < q.1 := by rw [e]; exact List.lt_irrefl _
    by_cases e2 : p.2 = q.2
    · rw [if_pos (by simpa using e2)]; simp [e, e2]
    · rw [if_neg (by simpa using e2)]
      rw [Bool.eq_iff_iff]
      simp only [Bool.not_eq_true', decide_eq_false_iff_not, decide_eq_true_eq, n, e, true_and, false_or]
      constructor
      · intro h; right; omega
      · rintro (h | h)
        · exact absurd h (List.lt_irrefl _)
        · omega
  · rw [if_neg (by simpa using e)]
    rw [Bool.eq_iff_iff]
    simp only [Bool.not_eq_true', decide_eq_false_iff_not, decide_eq_true_eq, e, false_and, or_false]
    constructor
    · intro h
      by_cases c : p.1 < q.1
      · exact c
      · exact absurd (List.le_antisymm (List.not_lt.mp h) (List.not_lt.mp c)) e
    · intro h c
      exact List.lt_irrefl _ (List.lt_trans h c)
theorem partLe_trans (a b c : Part) (h1 : partLe a b = true) (h2 : partLe b c = true) : partLe a c = true := by
  rw [partLe_eq, decide_eq_true_eq] at *
  rcases h1 with h1 | ⟨h1, h1'⟩
  · rcases h2 with h2 | ⟨h2, _⟩
    · exact .inl (List.lt_trans h1 h2)
    · rw [← h2]; exact .inl h1
  · rcases h2 with h2 | ⟨h2, h2'⟩
    · rw [h1]; exact .inl h2
    · exact .inr ⟨h1.trans h2, Int.le_trans h1' h2'⟩
theorem partLe_total (a b : Part) : (partLe a b || partLe b a) = true := by
  rw [partLe_eq, partLe_eq, Bool.or_eq_true, decide_eq_true_eq, decide_eq_true_eq]
  by_cases c : a.1 < b.1
  · exact .inl (.inl c)
  · by_cases d : b.1 < a.1
    · exact .inr (.inl d)
    · have e := List.le_antisymm (List.not_lt.mp d) (List.not_lt.mp c)
      by_cases f : a.2 ≤ b.2
      · exact .inl (.inr ⟨e, f⟩)
      · exact .inr (.inr ⟨e.symm, by omega⟩)
theorem rising_of {L : List Part} (hp : L.Pairwise fun a b => partLe a b = true) (hn : (L.map (·.1)).Nodup) : rising L = true := by
  induction L with
  | nil => rfl
  | cons x r ih =>
    cases r with
    | nil => rfl
    | cons y r =>
      rw [rising, Bool.and_eq_true, decide_eq_true_eq]
      rw [List.pairwise_cons] at hp
      rw [List.map_cons, List.nodup_cons] at hn
      refine ⟨?_, ih hp.2 hn.2⟩
      have h := hp.1 y List.mem_cons_self
      rw [partLe_eq, decide_eq_true_eq] at h
      rcases h with h | ⟨h, _⟩
      · exact h
      · exact absurd (by rw [h]; simp) hn.1
/-- sorted parts of unlike names rise -/
theorem rising_sort (L : List Part) (hn : (L.map (·.1)).Nodup) : rising (L.mergeSort partLe) = true := by
  refine rising_of (List.pairwise_mergeSort partLe_trans partLe_total L) ?_
  exact ((List.mergeSort_perm L partLe).map _).nodup_iff.mpr hn
end PyI
end

section
set_option maxRecDepth 100000
set_option maxHeartbeats 4000000
namespace PyI
open PySem
def keyQ (q : Part) : Key × D := (.inr (tx q.1), .int q.2)
def dicD (T : List Part) : D := .dic (T.map keyQ)
theorem tx_inj {a b : List Nat} (h : tx a = tx b) : a = b := by
  have := congrArg (fun s : Str => s.cps.toList) h
  simpa [tx_toList] using this
theorem dget_dic {T : List Part} (hn : (T.map (·.1)).Nodup) {q : Part} (hq : q ∈ T) : dget (T.map keyQ) (.inr (tx q.1)) = some (.int q.2) := by
  induction T with
  | nil => cases hq
  | cons x r ih =>
    rw [List.map_cons, List.nodup_cons] at hn
    unfold dget
    rw [List.map_cons, List.find?_cons]
    by_cases e : x.1 = q.1
    · have hx : x = q := by
        rcases List.mem_cons.mp hq with h | h
        · exact h.symm
        · exact absurd (by rw [e]; exact List.mem_map_of_mem h) hn.1
      subst hx
      simp [keyQ]
    · have hq' : q ∈ r := (List.mem_cons.mp hq).resolve_left fun z => e (by rw [z])
      have ne : ¬ (Sum.inr (tx x.1) : Key) = .inr (tx q.1) := fun z => e (tx_inj (by injection z))
      have : (decide ((keyQ x).1 = (Sum.inr (tx q.1) : Key))) = false := decide_eq_false ne
      rw [this]
      exact ih hn.2 hq'
def fdMade : FDef := { name := "_law_made", ps := ["_law_count", "_law_times"], N := ["_law_count", "_law_times", "_law_name"], dfl := [], cls := [.F, .F], io := [], fresh := false, body := [
  .ret (.tup [(.var 0), (.op1 .tuple_ (.op1 .sorted_ (.comp (.tup [(.var 2), (.op2 .ix (.var 1) (.var 2))]) (.name 2) .keys [(.var 1)] [(.op2 .gt (.op2 .ix (.var 1) (.var 2)) (.lit (.int 0)))])))])] }
def madeL (T : List Part) : List Part := (T.filter fun q => decide (0 < q.2)).mergeSort partLe
section
variable {cf : CF}
theorem run_made {c : Int} {T : List Part} (hn : (T.map (·.1)).Nodup) (hB : T.length ≤ BIG) : runD cf fdMade [.int c, dicD T] = some (lenD c (madeL T), []) := by
  have it : iterD .keys [dicD T] = some (T.map fun q => D.str (tx q.1)) := by
    show some ((T.map keyQ).map fun kv => ofKey kv.1) = _
    rw [List.map_map]; rfl
  have ix : ∀ q ∈ T, sem2 .ix (dicD T) (.str (tx q.1)) = some (.int q.2) := fun q hq => dget_dic hn hq
  have cm : compL (stepC cf [some (.int c), some (dicD T), none] (.tup [(.var 2), (.op2 .ix (.var 1) (.var 2))]) (.name 2) [(.op2 .gt (.op2 .ix (.var 1) (.var 2)) (.lit (.int 0)))]) (T.map fun q => D.str (tx q.1)) = some (partsD (T.filter fun q => decide (0 < q.2))) := by
    refine compL_filter (p := fun q : Part => decide (0 < q.2)) (g := partD) fun q hq => ?_
    simp [stepC, ix q hq, partD]
    split <;> rfl
  have hl : (T.map fun q => D.str (tx q.1)).length ≤ BIG := by simpa using hB
  have so : sem1 .sorted_ (.lst (partsD (T.filter fun q => decide (0 < q.2)))) = some (.lst (partsD (madeL T))) := by
    show (sortD _).map D.lst = _
    rw [sortD_parts]; rfl
  have tu : sem1 .tuple_ (.lst (partsD (madeL T))) = some (.tup (partsD (madeL T))) := rfl
  have r1 : execS cf [some (.int c), some (dicD T), none] (.ret (.tup [(.var 0), (.op1 .tuple_ (.op1 .sorted_ (.comp (.tup [(.var 2), (.op2 .ix (.var 1) (.var 2))]) (.name 2) .keys [(.var 1)] [(.op2 .gt (.op2 .ix (.var 1) (.var 2)) (.lit (.int 0)))])))])) = some (.ret (lenD c (madeL T)) [some (.int c), some (dicD T), none]) := by
    simp only [x_ret, e_tup, es_cons, es_nil, e_var, look_0, look_s, Option.bind_some, Option.map_some, e_op1, e_comp, it, if_pos hl, cm, so, tu]
    rfl
  rw [runD_eq rfl]
  show (execSs cf [some (.int c), some (dicD T), none] [_]).bind (outF []) = _
  rw [xs_cons, r1, Option.bind_some, thenF_ret, Option.bind_some, outF_ret]
def putT (T : List Part) (n : List Nat) (v : Int) : List Part := if (T.any fun q => decide (q.1 = n)) = true then T.map (fun q => if q.1 = n then (q.1, v) else q) else T ++ [(n, v)]
theorem key_eq (q : Part) (n : List Nat) : decide ((keyQ q).1 = (Sum.inr (tx n) : Key)) = decide (q.1 = n) := by
  rw [Bool.eq_iff_iff, decide_eq_true_eq, decide_eq_true_eq]
  constructor
  · intro h
    exact tx_inj (by injection h)
  · intro h
    show (Sum.inr (tx q.1) : Key) = _
    rw [h]
theorem dput_dic (T : List Part) (n : List Nat) (v : Int) : dput (T.map keyQ) (.inr (tx n)) (.int v) = (putT T n v).map keyQ := by
  unfold dput putT
  have h : ((T.map keyQ).any fun kv => decide (kv.1 = (Sum.inr (tx n) : Key))) = T.any fun q => decide (q.1 = n) := by
    rw [List.any_map]
    congr 1
    funext q
    exact key_eq q n
  rw [h]
  split
  · rw [List.map_map, List.map_map]
    refine List.map_congr_left fun q _ => ?_
    have := key_eq q n
    by_cases e : q.1 = n
    · have e' : (keyQ q).1 = (Sum.inr (tx n) : Key) := by
        rw [decide_eq_true e] at this; exact of_decide_eq_true this
      simp only [Function.comp_apply, if_pos e, if_pos e']
      rfl
    · have e' : ¬ (keyQ q).1 = (Sum.inr (tx n) : Key) := by
        rw [decide_eq_false e] at this; exact of_decide_eq_false this
      simp only [Function.comp_apply, if_neg e, if_neg e']
  · rw [List.map_append]; rfl
theorem putT_names {T : List Part} {n : List Nat} {v : Int} (h : (T.map (·.1)).Nodup) : ((putT T n v).map (·.1)).Nodup := by
  unfold putT
  split
  · have : (T.map (fun q => if q.1 = n then (q.1, v) else q)).map (·.1) = T.map (·.1) := by
      rw [List.map_map]
      refine List.map_congr_left fun q _ => ?_
      simp only [Function.comp_apply]
      split <;> rfl
    rw [this]; exact h
  · rename_i hq
    rw [List.map_append, List.nodup_append]
    refine ⟨h, by simp, ?_⟩
    intro a ha b hb e
    simp at hb
    subst hb e
    obtain ⟨q, h1, h2⟩ := List.mem_map.mp ha
    exact hq (List.any_eq_true.mpr ⟨q, h1, by simpa using h2⟩)
theorem putT_len (T : List Part) (n : List Nat) (v : Int) : (putT T n v).length ≤ T.length + 1 := by
  unfold putT
  split <;> simp
theorem putT_mem {T : List Part} {n : List Nat} {v : Int} {q : Part} (h : q ∈ putT T n v) : (∃ q' ∈ T, q'.1 = q.1) ∨ q.1 = n := by
  unfold putT at h
  split at h
  · obtain ⟨q', h1, h2⟩ := List.mem_map.mp h
    left
    refine ⟨q', h1, ?_⟩
    split at h2 <;> rw [← h2]
  · rcases List.mem_append.mp h with h | h
    · exact .inl ⟨q, h, rfl⟩
    · right; simp at h; rw [h]
def fdDrawn (mi md : Nat) : FDef := { name := "_law_drawn", ps := ["_law_cells", "_law_names_here"], N := ["_law_cells", "_law_names_here", "_law_count", "_law_times", "_law_k", "_law_cell", "_law_mixed_here", "_law_many"], dfl := [], cls := [.F, .F], io := [], fresh := false, body := [
  .asg 2 false (.lit (.int 0)),
  .asg 3 true (.dct [] []),
  .for_ (.tup [4, 5]) .enum [(.var 0)] [.asg 6 false (.call mi [(.var 5), (.var 4)]), .asg 7 false (.op2 .ix (.lst [(.op2 .mod (.op2 .fdiv (.var 6) (.lit (.int 40))) (.lit (.int 4))), (.op2 .mod (.op2 .fdiv (.var 6) (.lit (.int 40))) (.lit (.int 100))), (.op2 .mod (.var 5) (.op2 .pow (.lit (.int 10)) (.lit (.int 58)))), (.lit (.int 1))]) (.op2 .mod (.op2 .fdiv (.var 6) (.lit (.int 8))) (.lit (.int 4)))), .iff (.op2 .lt (.op2 .mod (.var 6) (.lit (.int 8))) (.lit (.int 2))) [.asg 2 false (.op2 .add (.var 2) (.var 7))] [.setix 3 (.op2 .ix (.var 1) (.op2 .mod (.var 6) (.lit (.int 5)))) (.var 7)]],
  .frz 3,
  .ret (.call md [(.var 2), (.var 3)])] }
/-- the frame in the loop -/
def envD (cs nm : D) (c : Int) (T : List Part) (a b x y : Option D) : Env := [some cs, some nm, some (.int c), some (dicD T), a, b, x, y]
/-- what the loop keeps: a count, times of some of the names -/
structure DrawI (N : List (List Nat)) (c : Int) (T : List Part) (i : Nat) : Prop where
  cb : c ≤ i * 10000000000000000000000000000000000000000000000000000000000
  c : 0 ≤ c
  n : (T.map (·.1)).Nodup
  l : T.length ≤ i
  m : ∀ q ∈ T, q.1 ∈ N
  b : ∀ q ∈ T, q.2 ≤ 10000000000000000000000000000000000000000000000000000000000
/-- the number that is drawn: one of four -/
def manyOf (cell h : Int) : Int := if h / 8 % 4 = 0 then h / 40 % 4 else if h / 8 % 4 = 1 then h / 40 % 100 else if h / 8 % 4 = 2 then cell % 10000000000000000000000000000000000000000000000000000000000 else 1
theorem many_le (cell h : Int) : manyOf cell h ≤ 10000000000000000000000000000000000000000000000000000000000 := by
  unfold manyOf
  split
  · omega
  · split
    · omega
    · split
      · omega
      · decide
theorem putT_le {T : List Part} {n : List Nat} {v B : Int} (h : ∀ q ∈ T, q.2 ≤ B) (hv : v ≤ B) : ∀ q ∈ putT T n v, q.2 ≤ B := by
  intro q hq
  unfold putT at hq
  split at hq
  · obtain ⟨x, h1, h2⟩ := List.mem_map.mp hq
    split at h2
    · rw [← h2]; exact hv
    · rw [← h2]; exact h x h1
  · rcases List.mem_append.mp hq with hq | hq
    · exact h q hq
    · rw [List.mem_singleton.mp hq]; exact hv
theorem many_nn (cell h : Int) : 0 ≤ manyOf cell h := by
  unfold manyOf
  split
  · exact Int.emod_nonneg _ (by decide)
  · split
    · exact Int.emod_nonneg _ (by decide)
    · split
      · exact Int.emod_nonneg _ (by decide)
      · decide
theorem many_ix {a b c d : Int} {k : Int} : ∃ v, v = (if k % 4 = 0 then a else if k % 4 = 1 then b else if k % 4 = 2 then c else d) ∧ sem2 .ix (.lst [.int a, .int b, .int c, .int d]) (.int (k % 4)) = some (.int v) := by
  refine ⟨_, rfl, ?_⟩
  have h : k % 4 = 0 ∨ k % 4 = 1 ∨ k % 4 = 2 ∨ k % 4 = 3 := by omega
  rcases h with h | h | h | h <;> rw [h] <;> rfl
theorem nameAt {N : List (List Nat)} (h5 : N.length = 5) (h : Int) : ∃ n, n ∈ N ∧ sem2 .ix (.lst (N.map fun l => D.str (tx l))) (.int (h % 5)) = some (.str (tx n)) := by
  have hi : (h % 5).toNat < N.length := by omega
  exact ⟨N[(h % 5).toNat], List.getElem_mem hi, s_ixL (by omega) (by simp [hi])⟩
theorem step_drawn {mi : Nat} {N : List (List Nat)} (hm : ∀ c k : Int, cf mi [.int c, .int k] = some (.int (mixed c k), [])) (h5 : N.length = 5) {cs : D} {c : Int} {T : List Part} {a b x y : Option D} {i : Nat} {cell : Int} (hi : i < 1000) (I : DrawI N c T i) :
    ∃ c' T' a' b' x' y', stepF cf (.tup [4, 5]) [.asg 6 false (.call mi [(.var 5), (.var 4)]), .asg 7 false (.op2 .ix (.lst [(.op2 .mod (.op2 .fdiv (.var 6) (.lit (.int 40))) (.lit (.int 4))), (.op2 .mod (.op2 .fdiv (.var 6) (.lit (.int 40))) (.lit (.int 100))), (.op2 .mod (.var 5) (.op2 .pow (.lit (.int 10)) (.lit (.int 58)))), (.lit (.int 1))]) (.op2 .mod (.op2 .fdiv (.var 6) (.lit (.int 8))) (.lit (.int 4)))), .iff (.op2 .lt (.op2 .mod (.var 6) (.lit (.int 8))) (.lit (.int 2))) [.asg 2 false (.op2 .add (.var 2) (.var 7))] [.setix 3 (.op2 .ix (.var 1) (.op2 .mod (.var 6) (.lit (.int 5)))) (.var 7)]]
      (envD cs (.lst (N.map fun l => D.str (tx l))) c T a b x y) (.tup [.int i, .int cell]) = some (.nxt (envD cs (.lst (N.map fun l => D.str (tx l))) c' T' a' b' x' y')) ∧ DrawI N c' T' (i + 1) := by
  obtain ⟨n, hn, hix⟩ := nameAt h5 (mixed cell i)
  have hmi := hm cell i
  generalize mixed cell i = h at *
  have d40 : sem2 .fdiv (.int h) (.int 40) = some (.int (h / 40)) := s_fdiv (by decide) (by decide)
  have d8 : sem2 .fdiv (.int h) (.int 8) = some (.int (h / 8)) := s_fdiv (by decide) (by decide)
  have m4 : ∀ x, sem2 .mod (.int x) (.int 4) = some (.int (x % 4)) := fun x => s_mod (by decide)
  have m5 : sem2 .mod (.int h) (.int 5) = some (.int (h % 5)) := s_mod (by decide)
  have m8 : sem2 .mod (.int h) (.int 8) = some (.int (h % 8)) := s_mod (by decide)
  have m100 : ∀ x, sem2 .mod (.int x) (.int 100) = some (.int (x % 100)) := fun x => s_mod (by decide)
  have mb : sem2 .mod (.int cell) (.int 10000000000000000000000000000000000000000000000000000000000) = some (.int (cell % 10000000000000000000000000000000000000000000000000000000000)) := s_mod (by decide)
  obtain ⟨v, hv, hiv⟩ := many_ix (a := h / 40 % 4) (b := h / 40 % 100) (c := cell % 10000000000000000000000000000000000000000000000000000000000) (d := 1) (k := h / 8)
  have v0 : 0 ≤ v := by rw [hv]; exact many_nn cell h
  have v1 : v ≤ 10000000000000000000000000000000000000000000000000000000000 := by rw [hv]; exact many_le cell h
  generalize hN : (D.lst (N.map fun l => D.str (tx l))) = ND at *
  have hB : T.length < BIG := by have := I.l; unfold BIG; omega
  by_cases h2 : h % 8 < 2
  · refine ⟨c + v, T, some (.int i), some (.int cell), some (.int h), some (.int v), ?_, ⟨by have := I.cb; omega, by have := I.c; omega, I.n, by have := I.l; omega, I.m, I.b⟩⟩
    simp only [stepF, envD, b_tup2, List.set_cons_zero, List.set_cons_succ, Option.bind_some, xs_cons, xs_nil, x_asg, e_call, es_cons, es_nil, e_var, e_lit, e_op2, e_lst, look_0, look_s, Option.map_some, hmi, thenF_nxt, d40, d8, m4, m100, s_p58, mb, hiv, x_iff, m8, s_lt, h2, decide_true, asB_some, if_true, s_add]
  · have kv : (T.map keyQ).length < BIG := by simpa using hB
    refine ⟨c, putT T n v, some (.int i), some (.int cell), some (.int h), some (.int v), ?_, ⟨by have := I.cb; omega, I.c, putT_names I.n, by have := I.l; have := putT_len T n v; omega, fun q hq => ?_, putT_le I.b (by rw [hv]; exact many_le cell h)⟩⟩
    · have st : execS cf [some cs, some ND, some (.int c), some (dicD T), some (.int i), some (.int cell), some (.int h), some (.int v)] (.setix 3 (.op2 .ix (.var 1) (.op2 .mod (.var 6) (.lit (.int 5)))) (.var 7)) = some (.nxt [some cs, some ND, some (.int c), some (dicD (putT T n v)), some (.int i), some (.int cell), some (.int h), some (.int v)]) := by
        rw [x_setD (kvs := T.map keyQ) (d := .int v) (kd := .str (tx n)) (key := .inr (tx n)) rfl rfl ?_ rfl kv, dput_dic]
        · rfl
        · rw [e_op2, e_var, e_op2, e_var, e_lit]
          simp only [look_0, look_s, Option.bind_some, m5, hix]
      simp only [stepF, envD, b_tup2, List.set_cons_zero, List.set_cons_succ, Option.bind_some, xs_cons, xs_nil, x_asg, e_call, es_cons, es_nil, e_var, e_lit, e_op2, e_lst, look_0, look_s, Option.map_some, hmi, thenF_nxt, d40, d8, m4, m100, s_p58, mb, hiv, x_iff, m8, s_lt, h2, decide_false, asB_some, Bool.false_eq_true, if_false, st]
    · rcases putT_mem hq with ⟨q', h1, h3⟩ | h3
      · rw [← h3]; exact I.m q' h1
      · rw [h3]; exact hn
theorem run_drawn {mi md : Nat} {N : List (List Nat)} {ns : List Int} (hm : ∀ c k : Int, cf mi [.int c, .int k] = some (.int (mixed c k), [])) (hd : ∀ (c : Int) (T : List Part), (T.map (·.1)).Nodup → T.length ≤ BIG → cf md [.int c, dicD T] = some (lenD c (madeL T), [])) (h5 : N.length = 5) (hl : ns.length ≤ 900) :
    ∃ c T, runD cf (fdDrawn mi md) [.lst (ns.map D.int), .lst (N.map fun l => D.str (tx l))] = some (lenD c (madeL T), []) ∧ DrawI N c T ns.length := by
  have loop := forL_inv_ix (f := stepF cf (.tup [4, 5]) [.asg 6 false (.call mi [(.var 5), (.var 4)]), .asg 7 false (.op2 .ix (.lst [(.op2 .mod (.op2 .fdiv (.var 6) (.lit (.int 40))) (.lit (.int 4))), (.op2 .mod (.op2 .fdiv (.var 6) (.lit (.int 40))) (.lit (.int 100))), (.op2 .mod (.var 5) (.op2 .pow (.lit (.int 10)) (.lit (.int 58)))), (.lit (.int 1))]) (.op2 .mod (.op2 .fdiv (.var 6) (.lit (.int 8))) (.lit (.int 4)))), .iff (.op2 .lt (.op2 .mod (.var 6) (.lit (.int 8))) (.lit (.int 2))) [.asg 2 false (.op2 .add (.var 2) (.var 7))] [.setix 3 (.op2 .ix (.var 1) (.op2 .mod (.var 6) (.lit (.int 5)))) (.var 7)]])
    (I := fun i e => ∃ c T a b x y, e = envD (.lst (ns.map D.int)) (.lst (N.map fun l => D.str (tx l))) c T a b x y ∧ DrawI N c T i) (xs := enumD 0 (ns.map D.int)) (e := envD (.lst (ns.map D.int)) (.lst (N.map fun l => D.str (tx l))) 0 [] none none none none) 0 ?_ ⟨0, [], none, none, none, none, rfl, ⟨by decide, by decide, by simp, by simp, by simp, by simp⟩⟩
  · obtain ⟨e', h1, c, T, a, b, x, y, rfl, I⟩ := loop
    have hlen : (enumD 0 (ns.map D.int)).length = ns.length := by
      have : ∀ (k : Nat) (xs : List D), (enumD k xs).length = xs.length := by
        intro k xs
        induction xs generalizing k with
        | nil => rfl
        | cons x r ih => simp [enumD, ih]
      rw [this]; simp
    rw [hlen, Nat.zero_add] at I
    refine ⟨c, T, ?_, I⟩
    have hB : T.length ≤ BIG := by have := I.l; unfold BIG; omega
    rw [runD_eq rfl]
    have it : iterD .enum [.lst (ns.map D.int)] = some (enumD 0 (ns.map D.int)) := rfl
    show (execSs cf [some (.lst (ns.map D.int)), some (.lst (N.map fun l => D.str (tx l))), none, none, none, none, none, none] (fdDrawn mi md).body).bind (outF []) = _
    rw [fdDrawn]
    simp only []
    rw [xs_cons, x_asg, e_lit, Option.map_some, Option.bind_some, thenF_nxt, xs_cons, x_asg, e_dct0, Option.map_some, Option.bind_some, thenF_nxt, xs_cons, x_for, es_cons, es_nil, e_var]
    simp only [List.set_cons_zero, List.set_cons_succ, look_0, Option.bind_some, Option.map_some, it]
    have h1' := h1
    unfold envD dicD at h1'
    rw [List.map_nil] at h1'
    rw [h1', Option.bind_some, thenF_nxt, xs_cons, x_frz, Option.bind_some, thenF_nxt, xs_cons, x_ret, e_call]
    simp only [es_cons, es_nil, e_var, look_0, look_s, Option.bind_some, Option.map_some, show D.dic (T.map keyQ) = dicD T from rfl, hd c T I.n hB, thenF_ret, outF_ret]
  · intro i x e hx ⟨c, T, a, b, u, w, he, I⟩
    subst he
    have get : ∀ (k i : Nat) (xs : List D), (enumD k xs)[i]? = xs[i]?.map fun x => .tup [.int (k + i : Nat), x] := by
      intro k i xs
      induction xs generalizing k i with
      | nil => simp [enumD]
      | cons x r ih =>
        cases i with
        | zero => simp [enumD]
        | succ i => rw [enumD, List.getElem?_cons_succ, List.getElem?_cons_succ, ih (k + 1) i, Nat.add_assoc, Nat.add_comm 1 i]
    rw [get, List.getElem?_map] at hx
    by_cases hi : i < ns.length
    · rw [List.getElem?_eq_getElem hi] at hx
      simp only [Option.map_some, Option.some.injEq, Nat.zero_add] at hx
      subst hx
      obtain ⟨c', T', a', b', x', y', q1, q2⟩ := step_drawn (cs := .lst (ns.map D.int)) (a := a) (b := b) (x := u) (y := w) (cell := ns[i]) hm h5 (show 0 + i < 1000 by omega) I
      rw [Nat.zero_add] at q1 q2 ⊢
      exact ⟨_, q1, c', T', a', b', x', y', rfl, q2⟩
    · rw [List.getElem?_eq_none (by omega)] at hx; cases hx
end
end PyI
end

section
set_option maxRecDepth 100000
set_option maxHeartbeats 4000000
namespace PyI
open PySem
class Look (env : Env) (i : Nat) (d : outParam D) : Prop where h : look env i = some d
class SetE (env : Env) (i : Nat) (d : D) (env' : outParam Env) : Prop where h : env.set i (some d) = env'
class Ev (cf : CF) (env : Env) (e : E) (d : outParam D) : Prop where h : evalE cf env e = some d
class Evs (cf : CF) (env : Env) (es : List E) (ds : outParam (List D)) : Prop where h : evalEs cf env es = some ds
class EvO (cf : CF) (env : Env) (e : Option E) (i : outParam (Option Int)) : Prop where h : evalO cf env e = some i
class EvC (cf : CF) (env : Env) (es : List E) (b : outParam Bool) : Prop where h : evalCs cf env es = some b
class Cal (cf : CF) (f : Nat) (ds : List D) (d : outParam D) (os : outParam (List D)) : Prop where h : cf f ds = some (d, os)
class Sm1 (o : Op1) (x : D) (y : outParam D) : Prop where h : sem1 o x = some y
class Sm2 (o : Op2) (x y : D) (z : outParam D) : Prop where h : sem2 o x y = some z
class Sli (x : D) (lo hi : Option Int) (y : outParam D) : Prop where h : sliceSem x lo hi = some y
class Itr (io : ItOp) (ss : List D) (xs : outParam (List D)) : Prop where h : iterD io ss = some xs
class Bnd (tg : Tg) (d : D) (env : Env) (env' : outParam Env) : Prop where h : bindT tg d env = some env'
class SetA (env : Env) (is : List Nat) (ds : List D) (env' : outParam Env) : Prop where h : is.length = ds.length ∧ setAll env is ds = env'
class Cmp (cf : CF) (env : Env) (elt : E) (tg : Tg) (conds : List E) (xs : List D) (ys : outParam (List D)) : Prop where h : compL (stepC cf env elt tg conds) xs = some ys
class OfT (t : Ty) (d : D) (b : outParam Bool) : Prop where h : ofTy t d = b
class Shrt (xs : List D) : Prop where h : xs.length ≤ BIG
/-- facts told by hand -/
class Tru (p : Prop) : Prop where h : p
class Fls (p : Prop) : Prop where h : ¬ p
class Pos (i : Int) : Prop where h : 0 < i
class Dvs (i : Int) : Prop where h : 0 < i ∧ i < 1073741824
class Sm64 (i : Int) : Prop where h : i.natAbs < 18446744073709551616
class Sm62 (i : Int) : Prop where h : -4611686018427387904 ≤ i ∧ i < 4611686018427387904
section
variable {cf : CF} {env : Env}
instance {i : Nat} {d : D} [q : Look env i d] : Ev cf env (.var i) d := ⟨q.h⟩
instance {d : D} : Ev cf env (.lit d) d := ⟨rfl⟩
instance {x : Str} {d : D} : Ev cf env (.glb x d) d := ⟨rfl⟩
instance {o : Op1} {a : E} {x y : D} [p : Ev cf env a x] [q : Sm1 o x y] : Ev cf env (.op1 o a) y := ⟨by rw [e_op1, p.h]; exact q.h⟩
instance {o : Op2} {a b : E} {x y z : D} [p : Ev cf env a x] [p' : Ev cf env b y] [q : Sm2 o x y z] : Ev cf env (.op2 o a b) z := ⟨by rw [e_op2, p.h, p'.h]; exact q.h⟩
instance {a : E} {t : Ty} {x : D} {b : Bool} [p : Ev cf env a x] [q : OfT t x b] : Ev cf env (.isi a t) (.bl b) := ⟨by rw [e_isi, p.h, Option.map_some, q.h]⟩
instance {es : List E} {xs : List D} [p : Evs cf env es xs] : Ev cf env (.tup es) (.tup xs) := ⟨by rw [e_tup, p.h]; rfl⟩
instance {es : List E} {xs : List D} [p : Evs cf env es xs] : Ev cf env (.lst es) (.lst xs) := ⟨by rw [e_lst, p.h]; rfl⟩
instance : Ev cf env (.dct [] []) (.dic []) := ⟨rfl⟩
instance : Evs cf env [] [] := ⟨rfl⟩
instance {e : E} {es : List E} {x : D} {xs : List D} [p : Ev cf env e x] [q : Evs cf env es xs] : Evs cf env (e :: es) (x :: xs) := ⟨by rw [es_cons, p.h, q.h]; rfl⟩
instance ev_and {a b : E} {x y : Bool} [p : Ev cf env a (.bl x)] [q : Ev cf env b (.bl y)] : Ev cf env (.and_ a b) (.bl (x && y)) := ⟨by rw [e_and, p.h, q.h]; cases x <;> rfl⟩
instance (priority := 1100) ev_andF {a b : E} [p : Ev cf env a (.bl false)] : Ev cf env (.and_ a b) (.bl false) := ⟨by rw [e_and, p.h]; rfl⟩
instance (priority := 1090) ev_andT {a b : E} {y : Bool} [p : Ev cf env a (.bl true)] [q : Ev cf env b (.bl y)] : Ev cf env (.and_ a b) (.bl y) := ⟨by rw [e_and, p.h, q.h]; rfl⟩
instance ev_or {a b : E} {x y : Bool} [p : Ev cf env a (.bl x)] [q : Ev cf env b (.bl y)] : Ev cf env (.or_ a b) (.bl (x || y)) := ⟨by rw [e_or, p.h, q.h]; cases x <;> rfl⟩
instance (priority := 1100) ev_orT {a b : E} [p : Ev cf env a (.bl true)] : Ev cf env (.or_ a b) (.bl true) := ⟨by rw [e_or, p.h]; rfl⟩
instance (priority := 1090) ev_orF {a b : E} {y : Bool} [p : Ev cf env a (.bl false)] [q : Ev cf env b (.bl y)] : Ev cf env (.or_ a b) (.bl y) := ⟨by rw [e_or, p.h, q.h]; rfl⟩
instance (priority := 1100) ev_iteT {c a b : E} {x : D} [p : Ev cf env c (.bl true)] [q : Ev cf env a x] : Ev cf env (.ite c a b) x := ⟨by rw [e_ite, p.h, asB_some, Option.bind_some, if_pos rfl]; exact q.h⟩
instance (priority := 1090) ev_iteF {c a b : E} {x : D} [p : Ev cf env c (.bl false)] [q : Ev cf env b x] : Ev cf env (.ite c a b) x := ⟨by rw [e_ite, p.h, asB_some, Option.bind_some, if_neg (by decide)]; exact q.h⟩
instance ev_ite {c a b : E} {k : Bool} {x y : D} [p : Ev cf env c (.bl k)] [q : Ev cf env a x] [q' : Ev cf env b y] : Ev cf env (.ite c a b) (if k = true then x else y) := ⟨by rw [e_ite, p.h, asB_some, Option.bind_some, q.h, q'.h]; split <;> rfl⟩
instance ev_cmp2 {o o' : Op2} {a b c : E} {x y z : D} {k k' : Bool} [p : Ev cf env a x] [p' : Ev cf env b y] [p'' : Ev cf env c z] [q : Sm2 o x y (.bl k)] [q' : Sm2 o' y z (.bl k')] : Ev cf env (.cmp2 o o' a b c) (.bl (k && k')) := ⟨by
  rw [e_cmp2, p.h, p'.h, p''.h]; simp only [Option.bind_some, q.h, q'.h, asB_some]; cases k <;> rfl⟩
instance {f : Nat} {args : List E} {ds : List D} {d : D} {os : List D} [p : Evs cf env args ds] [q : Cal cf f ds d os] : Ev cf env (.call f args) d := ⟨by rw [e_call, p.h, Option.bind_some, q.h]; rfl⟩
instance : EvO cf env none none := ⟨rfl⟩
instance {e : E} {i : Int} [p : Ev cf env e (.int i)] : EvO cf env (some e) (some i) := ⟨by rw [o_some, p.h]; rfl⟩
instance {a : E} {lo hi : Option E} {x y : D} {l h : Option Int} [p : Ev cf env a x] [q : EvO cf env lo l] [q' : EvO cf env hi h] [s : Sli x l h y] : Ev cf env (.slice a lo hi) y := ⟨by rw [e_slice, p.h, Option.bind_some, q.h, Option.bind_some, q'.h, Option.bind_some, s.h]⟩
instance ev_comp {elt : E} {tg : Tg} {io : ItOp} {src conds : List E} {ss xs ys : List D} [p : Evs cf env src ss] [q : Itr io ss xs] [s : Shrt xs] [r : Cmp cf env elt tg conds xs ys] : Ev cf env (.comp elt tg io src conds) (.lst ys) := ⟨by
  rw [e_comp, p.h, Option.bind_some, q.h, Option.bind_some, if_pos s.h, r.h]; rfl⟩
instance : EvC cf env [] true := ⟨rfl⟩
instance {c : E} {b : Bool} [p : Ev cf env c (.bl b)] : EvC cf env [c] b := ⟨by rw [cs_one, p.h]; rfl⟩
instance {i : Nat} {d : D} {env' : Env} [p : SetE env i d env'] : Bnd (.name i) d env env' := ⟨by rw [b_name, p.h]⟩
instance {is : List Nat} {ds : List D} {env' : Env} [p : SetA env is ds env'] : Bnd (.tup is) (.tup ds) env env' := ⟨by rw [b_tup p.h.1, p.h.2]⟩
instance : SetA env [] [] env := ⟨rfl, rfl⟩
instance {i : Nat} {is : List Nat} {d : D} {ds : List D} {env' env'' : Env} [p : SetE env i d env'] [q : SetA env' is ds env''] : SetA env (i :: is) (d :: ds) env'' := ⟨by simp [q.h.1], by show setAll (env.set i (some d)) is ds = _; rw [p.h]; exact q.h.2⟩
end
instance {d : D} {e : Env} : Look (some d :: e) 0 d := ⟨rfl⟩
instance {a0 : Option D} {d : D} {e : Env} : Look (a0 :: some d :: e) 1 d := ⟨rfl⟩
instance {a0 a1 : Option D} {d : D} {e : Env} : Look (a0 :: a1 :: some d :: e) 2 d := ⟨rfl⟩
instance {a0 a1 a2 : Option D} {d : D} {e : Env} : Look (a0 :: a1 :: a2 :: some d :: e) 3 d := ⟨rfl⟩
instance {a0 a1 a2 a3 : Option D} {d : D} {e : Env} : Look (a0 :: a1 :: a2 :: a3 :: some d :: e) 4 d := ⟨rfl⟩
instance {a0 a1 a2 a3 a4 : Option D} {d : D} {e : Env} : Look (a0 :: a1 :: a2 :: a3 :: a4 :: some d :: e) 5 d := ⟨rfl⟩
instance {a0 a1 a2 a3 a4 a5 : Option D} {d : D} {e : Env} : Look (a0 :: a1 :: a2 :: a3 :: a4 :: a5 :: some d :: e) 6 d := ⟨rfl⟩
instance {a0 a1 a2 a3 a4 a5 a6 : Option D} {d : D} {e : Env} : Look (a0 :: a1 :: a2 :: a3 :: a4 :: a5 :: a6 :: some d :: e) 7 d := ⟨rfl⟩
instance {a0 a1 a2 a3 a4 a5 a6 a7 : Option D} {d : D} {e : Env} : Look (a0 :: a1 :: a2 :: a3 :: a4 :: a5 :: a6 :: a7 :: some d :: e) 8 d := ⟨rfl⟩
instance {a0 a1 a2 a3 a4 a5 a6 a7 a8 : Option D} {d : D} {e : Env} : Look (a0 :: a1 :: a2 :: a3 :: a4 :: a5 :: a6 :: a7 :: a8 :: some d :: e) 9 d := ⟨rfl⟩
instance {a0 a1 a2 a3 a4 a5 a6 a7 a8 a9 : Option D} {d : D} {e : Env} : Look (a0 :: a1 :: a2 :: a3 :: a4 :: a5 :: a6 :: a7 :: a8 :: a9 :: some d :: e) 10 d := ⟨rfl⟩
instance {a0 a1 a2 a3 a4 a5 a6 a7 a8 a9 a10 : Option D} {d : D} {e : Env} : Look (a0 :: a1 :: a2 :: a3 :: a4 :: a5 :: a6 :: a7 :: a8 :: a9 :: a10 :: some d :: e) 11 d := ⟨rfl⟩
instance {a0 a1 a2 a3 a4 a5 a6 a7 a8 a9 a10 a11 : Option D} {d : D} {e : Env} : Look (a0 :: a1 :: a2 :: a3 :: a4 :: a5 :: a6 :: a7 :: a8 :: a9 :: a10 :: a11 :: some d :: e) 12 d := ⟨rfl⟩
instance {a0 a1 a2 a3 a4 a5 a6 a7 a8 a9 a10 a11 a12 : Option D} {d : D} {e : Env} : Look (a0 :: a1 :: a2 :: a3 :: a4 :: a5 :: a6 :: a7 :: a8 :: a9 :: a10 :: a11 :: a12 :: some d :: e) 13 d := ⟨rfl⟩
instance {a0 a1 a2 a3 a4 a5 a6 a7 a8 a9 a10 a11 a12 a13 : Option D} {d : D} {e : Env} : Look (a0 :: a1 :: a2 :: a3 :: a4 :: a5 :: a6 :: a7 :: a8 :: a9 :: a10 :: a11 :: a12 :: a13 :: some d :: e) 14 d := ⟨rfl⟩
instance {a0 a1 a2 a3 a4 a5 a6 a7 a8 a9 a10 a11 a12 a13 a14 : Option D} {d : D} {e : Env} : Look (a0 :: a1 :: a2 :: a3 :: a4 :: a5 :: a6 :: a7 :: a8 :: a9 :: a10 :: a11 :: a12 :: a13 :: a14 :: some d :: e) 15 d := ⟨rfl⟩
instance {a0 a1 a2 a3 a4 a5 a6 a7 a8 a9 a10 a11 a12 a13 a14 a15 : Option D} {d : D} {e : Env} : Look (a0 :: a1 :: a2 :: a3 :: a4 :: a5 :: a6 :: a7 :: a8 :: a9 :: a10 :: a11 :: a12 :: a13 :: a14 :: a15 :: some d :: e) 16 d := ⟨rfl⟩
instance {a0 a1 a2 a3 a4 a5 a6 a7 a8 a9 a10 a11 a12 a13 a14 a15 a16 : Option D} {d : D} {e : Env} : Look (a0 :: a1 :: a2 :: a3 :: a4 :: a5 :: a6 :: a7 :: a8 :: a9 :: a10 :: a11 :: a12 :: a13 :: a14 :: a15 :: a16 :: some d :: e) 17 d := ⟨rfl⟩
instance {a0 a1 a2 a3 a4 a5 a6 a7 a8 a9 a10 a11 a12 a13 a14 a15 a16 a17 : Option D} {d : D} {e : Env} : Look (a0 :: a1 :: a2 :: a3 :: a4 :: a5 :: a6 :: a7 :: a8 :: a9 :: a10 :: a11 :: a12 :: a13 :: a14 :: a15 :: a16 :: a17 :: some d :: e) 18 d := ⟨rfl⟩
instance {a0 a1 a2 a3 a4 a5 a6 a7 a8 a9 a10 a11 a12 a13 a14 a15 a16 a17 a18 : Option D} {d : D} {e : Env} : Look (a0 :: a1 :: a2 :: a3 :: a4 :: a5 :: a6 :: a7 :: a8 :: a9 :: a10 :: a11 :: a12 :: a13 :: a14 :: a15 :: a16 :: a17 :: a18 :: some d :: e) 19 d := ⟨rfl⟩
instance {a0 a1 a2 a3 a4 a5 a6 a7 a8 a9 a10 a11 a12 a13 a14 a15 a16 a17 a18 a19 : Option D} {d : D} {e : Env} : Look (a0 :: a1 :: a2 :: a3 :: a4 :: a5 :: a6 :: a7 :: a8 :: a9 :: a10 :: a11 :: a12 :: a13 :: a14 :: a15 :: a16 :: a17 :: a18 :: a19 :: some d :: e) 20 d := ⟨rfl⟩
instance {a0 a1 a2 a3 a4 a5 a6 a7 a8 a9 a10 a11 a12 a13 a14 a15 a16 a17 a18 a19 a20 : Option D} {d : D} {e : Env} : Look (a0 :: a1 :: a2 :: a3 :: a4 :: a5 :: a6 :: a7 :: a8 :: a9 :: a10 :: a11 :: a12 :: a13 :: a14 :: a15 :: a16 :: a17 :: a18 :: a19 :: a20 :: some d :: e) 21 d := ⟨rfl⟩
instance {a0 a1 a2 a3 a4 a5 a6 a7 a8 a9 a10 a11 a12 a13 a14 a15 a16 a17 a18 a19 a20 a21 : Option D} {d : D} {e : Env} : Look (a0 :: a1 :: a2 :: a3 :: a4 :: a5 :: a6 :: a7 :: a8 :: a9 :: a10 :: a11 :: a12 :: a13 :: a14 :: a15 :: a16 :: a17 :: a18 :: a19 :: a20 :: a21 :: some d :: e) 22 d := ⟨rfl⟩
instance {a0 a1 a2 a3 a4 a5 a6 a7 a8 a9 a10 a11 a12 a13 a14 a15 a16 a17 a18 a19 a20 a21 a22 : Option D} {d : D} {e : Env} : Look (a0 :: a1 :: a2 :: a3 :: a4 :: a5 :: a6 :: a7 :: a8 :: a9 :: a10 :: a11 :: a12 :: a13 :: a14 :: a15 :: a16 :: a17 :: a18 :: a19 :: a20 :: a21 :: a22 :: some d :: e) 23 d := ⟨rfl⟩
instance {a0 a1 a2 a3 a4 a5 a6 a7 a8 a9 a10 a11 a12 a13 a14 a15 a16 a17 a18 a19 a20 a21 a22 a23 : Option D} {d : D} {e : Env} : Look (a0 :: a1 :: a2 :: a3 :: a4 :: a5 :: a6 :: a7 :: a8 :: a9 :: a10 :: a11 :: a12 :: a13 :: a14 :: a15 :: a16 :: a17 :: a18 :: a19 :: a20 :: a21 :: a22 :: a23 :: some d :: e) 24 d := ⟨rfl⟩
instance {a0 a1 a2 a3 a4 a5 a6 a7 a8 a9 a10 a11 a12 a13 a14 a15 a16 a17 a18 a19 a20 a21 a22 a23 a24 : Option D} {d : D} {e : Env} : Look (a0 :: a1 :: a2 :: a3 :: a4 :: a5 :: a6 :: a7 :: a8 :: a9 :: a10 :: a11 :: a12 :: a13 :: a14 :: a15 :: a16 :: a17 :: a18 :: a19 :: a20 :: a21 :: a22 :: a23 :: a24 :: some d :: e) 25 d := ⟨rfl⟩
instance {x : Option D} {d : D} {e : Env} : SetE (x :: e) 0 d (some d :: e) := ⟨rfl⟩
instance {a0 : Option D} {x : Option D} {d : D} {e : Env} : SetE (a0 :: x :: e) 1 d (a0 :: some d :: e) := ⟨rfl⟩
instance {a0 a1 : Option D} {x : Option D} {d : D} {e : Env} : SetE (a0 :: a1 :: x :: e) 2 d (a0 :: a1 :: some d :: e) := ⟨rfl⟩
instance {a0 a1 a2 : Option D} {x : Option D} {d : D} {e : Env} : SetE (a0 :: a1 :: a2 :: x :: e) 3 d (a0 :: a1 :: a2 :: some d :: e) := ⟨rfl⟩
instance {a0 a1 a2 a3 : Option D} {x : Option D} {d : D} {e : Env} : SetE (a0 :: a1 :: a2 :: a3 :: x :: e) 4 d (a0 :: a1 :: a2 :: a3 :: some d :: e) := ⟨rfl⟩
instance {a0 a1 a2 a3 a4 : Option D} {x : Option D} {d : D} {e : Env} : SetE (a0 :: a1 :: a2 :: a3 :: a4 :: x :: e) 5 d (a0 :: a1 :: a2 :: a3 :: a4 :: some d :: e) := ⟨rfl⟩
instance {a0 a1 a2 a3 a4 a5 : Option D} {x : Option D} {d : D} {e : Env} : SetE (a0 :: a1 :: a2 :: a3 :: a4 :: a5 :: x :: e) 6 d (a0 :: a1 :: a2 :: a3 :: a4 :: a5 :: some d :: e) := ⟨rfl⟩
instance {a0 a1 a2 a3 a4 a5 a6 : Option D} {x : Option D} {d : D} {e : Env} : SetE (a0 :: a1 :: a2 :: a3 :: a4 :: a5 :: a6 :: x :: e) 7 d (a0 :: a1 :: a2 :: a3 :: a4 :: a5 :: a6 :: some d :: e) := ⟨rfl⟩
instance {a0 a1 a2 a3 a4 a5 a6 a7 : Option D} {x : Option D} {d : D} {e : Env} : SetE (a0 :: a1 :: a2 :: a3 :: a4 :: a5 :: a6 :: a7 :: x :: e) 8 d (a0 :: a1 :: a2 :: a3 :: a4 :: a5 :: a6 :: a7 :: some d :: e) := ⟨rfl⟩
instance {a0 a1 a2 a3 a4 a5 a6 a7 a8 : Option D} {x : Option D} {d : D} {e : Env} : SetE (a0 :: a1 :: a2 :: a3 :: a4 :: a5 :: a6 :: a7 :: a8 :: x :: e) 9 d (a0 :: a1 :: a2 :: a3 :: a4 :: a5 :: a6 :: a7 :: a8 :: some d :: e) := ⟨rfl⟩
instance {a0 a1 a2 a3 a4 a5 a6 a7 a8 a9 : Option D} {x : Option D} {d : D} {e : Env} : SetE (a0 :: a1 :: a2 :: a3 :: a4 :: a5 :: a6 :: a7 :: a8 :: a9 :: x :: e) 10 d (a0 :: a1 :: a2 :: a3 :: a4 :: a5 :: a6 :: a7 :: a8 :: a9 :: some d :: e) := ⟨rfl⟩
instance {a0 a1 a2 a3 a4 a5 a6 a7 a8 a9 a10 : Option D} {x : Option D} {d : D} {e : Env} : SetE (a0 :: a1 :: a2 :: a3 :: a4 :: a5 :: a6 :: a7 :: a8 :: a9 :: a10 :: x :: e) 11 d (a0 :: a1 :: a2 :: a3 :: a4 :: a5 :: a6 :: a7 :: a8 :: a9 :: a10 :: some d :: e) := ⟨rfl⟩
instance {a0 a1 a2 a3 a4 a5 a6 a7 a8 a9 a10 a11 : Option D} {x : Option D} {d : D} {e : Env} : SetE (a0 :: a1 :: a2 :: a3 :: a4 :: a5 :: a6 :: a7 :: a8 :: a9 :: a10 :: a11 :: x :: e) 12 d (a0 :: a1 :: a2 :: a3 :: a4 :: a5 :: a6 :: a7 :: a8 :: a9 :: a10 :: a11 :: some d :: e) := ⟨rfl⟩
instance {a0 a1 a2 a3 a4 a5 a6 a7 a8 a9 a10 a11 a12 : Option D} {x : Option D} {d : D} {e : Env} : SetE (a0 :: a1 :: a2 :: a3 :: a4 :: a5 :: a6 :: a7 :: a8 :: a9 :: a10 :: a11 :: a12 :: x :: e) 13 d (a0 :: a1 :: a2 :: a3 :: a4 :: a5 :: a6 :: a7 :: a8 :: a9 :: a10 :: a11 :: a12 :: some d :: e) := ⟨rfl⟩
instance {a0 a1 a2 a3 a4 a5 a6 a7 a8 a9 a10 a11 a12 a13 : Option D} {x : Option D} {d : D} {e : Env} : SetE (a0 :: a1 :: a2 :: a3 :: a4 :: a5 :: a6 :: a7 :: a8 :: a9 :: a10 :: a11 :: a12 :: a13 :: x :: e) 14 d (a0 :: a1 :: a2 :: a3 :: a4 :: a5 :: a6 :: a7 :: a8 :: a9 :: a10 :: a11 :: a12 :: a13 :: some d :: e) := ⟨rfl⟩
instance {a0 a1 a2 a3 a4 a5 a6 a7 a8 a9 a10 a11 a12 a13 a14 : Option D} {x : Option D} {d : D} {e : Env} : SetE (a0 :: a1 :: a2 :: a3 :: a4 :: a5 :: a6 :: a7 :: a8 :: a9 :: a10 :: a11 :: a12 :: a13 :: a14 :: x :: e) 15 d (a0 :: a1 :: a2 :: a3 :: a4 :: a5 :: a6 :: a7 :: a8 :: a9 :: a10 :: a11 :: a12 :: a13 :: a14 :: some d :: e) := ⟨rfl⟩
instance {a0 a1 a2 a3 a4 a5 a6 a7 a8 a9 a10 a11 a12 a13 a14 a15 : Option D} {x : Option D} {d : D} {e : Env} : SetE (a0 :: a1 :: a2 :: a3 :: a4 :: a5 :: a6 :: a7 :: a8 :: a9 :: a10 :: a11 :: a12 :: a13 :: a14 :: a15 :: x :: e) 16 d (a0 :: a1 :: a2 :: a3 :: a4 :: a5 :: a6 :: a7 :: a8 :: a9 :: a10 :: a11 :: a12 :: a13 :: a14 :: a15 :: some d :: e) := ⟨rfl⟩
instance {a0 a1 a2 a3 a4 a5 a6 a7 a8 a9 a10 a11 a12 a13 a14 a15 a16 : Option D} {x : Option D} {d : D} {e : Env} : SetE (a0 :: a1 :: a2 :: a3 :: a4 :: a5 :: a6 :: a7 :: a8 :: a9 :: a10 :: a11 :: a12 :: a13 :: a14 :: a15 :: a16 :: x :: e) 17 d (a0 :: a1 :: a2 :: a3 :: a4 :: a5 :: a6 :: a7 :: a8 :: a9 :: a10 :: a11 :: a12 :: a13 :: a14 :: a15 :: a16 :: some d :: e) := ⟨rfl⟩
instance {a0 a1 a2 a3 a4 a5 a6 a7 a8 a9 a10 a11 a12 a13 a14 a15 a16 a17 : Option D} {x : Option D} {d : D} {e : Env} : SetE (a0 :: a1 :: a2 :: a3 :: a4 :: a5 :: a6 :: a7 :: a8 :: a9 :: a10 :: a11 :: a12 :: a13 :: a14 :: a15 :: a16 :: a17 :: x :: e) 18 d (a0 :: a1 :: a2 :: a3 :: a4 :: a5 :: a6 :: a7 :: a8 :: a9 :: a10 :: a11 :: a12 :: a13 :: a14 :: a15 :: a16 :: a17 :: some d :: e) := ⟨rfl⟩
instance {a0 a1 a2 a3 a4 a5 a6 a7 a8 a9 a10 a11 a12 a13 a14 a15 a16 a17 a18 : Option D} {x : Option D} {d : D} {e : Env} : SetE (a0 :: a1 :: a2 :: a3 :: a4 :: a5 :: a6 :: a7 :: a8 :: a9 :: a10 :: a11 :: a12 :: a13 :: a14 :: a15 :: a16 :: a17 :: a18 :: x :: e) 19 d (a0 :: a1 :: a2 :: a3 :: a4 :: a5 :: a6 :: a7 :: a8 :: a9 :: a10 :: a11 :: a12 :: a13 :: a14 :: a15 :: a16 :: a17 :: a18 :: some d :: e) := ⟨rfl⟩
instance {a0 a1 a2 a3 a4 a5 a6 a7 a8 a9 a10 a11 a12 a13 a14 a15 a16 a17 a18 a19 : Option D} {x : Option D} {d : D} {e : Env} : SetE (a0 :: a1 :: a2 :: a3 :: a4 :: a5 :: a6 :: a7 :: a8 :: a9 :: a10 :: a11 :: a12 :: a13 :: a14 :: a15 :: a16 :: a17 :: a18 :: a19 :: x :: e) 20 d (a0 :: a1 :: a2 :: a3 :: a4 :: a5 :: a6 :: a7 :: a8 :: a9 :: a10 :: a11 :: a12 :: a13 :: a14 :: a15 :: a16 :: a17 :: a18 :: a19 :: some d :: e) := ⟨rfl⟩
instance {a0 a1 a2 a3 a4 a5 a6 a7 a8 a9 a10 a11 a12 a13 a14 a15 a16 a17 a18 a19 a20 : Option D} {x : Option D} {d : D} {e : Env} : SetE (a0 :: a1 :: a2 :: a3 :: a4 :: a5 :: a6 :: a7 :: a8 :: a9 :: a10 :: a11 :: a12 :: a13 :: a14 :: a15 :: a16 :: a17 :: a18 :: a19 :: a20 :: x :: e) 21 d (a0 :: a1 :: a2 :: a3 :: a4 :: a5 :: a6 :: a7 :: a8 :: a9 :: a10 :: a11 :: a12 :: a13 :: a14 :: a15 :: a16 :: a17 :: a18 :: a19 :: a20 :: some d :: e) := ⟨rfl⟩
instance {a0 a1 a2 a3 a4 a5 a6 a7 a8 a9 a10 a11 a12 a13 a14 a15 a16 a17 a18 a19 a20 a21 : Option D} {x : Option D} {d : D} {e : Env} : SetE (a0 :: a1 :: a2 :: a3 :: a4 :: a5 :: a6 :: a7 :: a8 :: a9 :: a10 :: a11 :: a12 :: a13 :: a14 :: a15 :: a16 :: a17 :: a18 :: a19 :: a20 :: a21 :: x :: e) 22 d (a0 :: a1 :: a2 :: a3 :: a4 :: a5 :: a6 :: a7 :: a8 :: a9 :: a10 :: a11 :: a12 :: a13 :: a14 :: a15 :: a16 :: a17 :: a18 :: a19 :: a20 :: a21 :: some d :: e) := ⟨rfl⟩
instance {a0 a1 a2 a3 a4 a5 a6 a7 a8 a9 a10 a11 a12 a13 a14 a15 a16 a17 a18 a19 a20 a21 a22 : Option D} {x : Option D} {d : D} {e : Env} : SetE (a0 :: a1 :: a2 :: a3 :: a4 :: a5 :: a6 :: a7 :: a8 :: a9 :: a10 :: a11 :: a12 :: a13 :: a14 :: a15 :: a16 :: a17 :: a18 :: a19 :: a20 :: a21 :: a22 :: x :: e) 23 d (a0 :: a1 :: a2 :: a3 :: a4 :: a5 :: a6 :: a7 :: a8 :: a9 :: a10 :: a11 :: a12 :: a13 :: a14 :: a15 :: a16 :: a17 :: a18 :: a19 :: a20 :: a21 :: a22 :: some d :: e) := ⟨rfl⟩
instance {a0 a1 a2 a3 a4 a5 a6 a7 a8 a9 a10 a11 a12 a13 a14 a15 a16 a17 a18 a19 a20 a21 a22 a23 : Option D} {x : Option D} {d : D} {e : Env} : SetE (a0 :: a1 :: a2 :: a3 :: a4 :: a5 :: a6 :: a7 :: a8 :: a9 :: a10 :: a11 :: a12 :: a13 :: a14 :: a15 :: a16 :: a17 :: a18 :: a19 :: a20 :: a21 :: a22 :: a23 :: x :: e) 24 d (a0 :: a1 :: a2 :: a3 :: a4 :: a5 :: a6 :: a7 :: a8 :: a9 :: a10 :: a11 :: a12 :: a13 :: a14 :: a15 :: a16 :: a17 :: a18 :: a19 :: a20 :: a21 :: a22 :: a23 :: some d :: e) := ⟨rfl⟩
instance {a0 a1 a2 a3 a4 a5 a6 a7 a8 a9 a10 a11 a12 a13 a14 a15 a16 a17 a18 a19 a20 a21 a22 a23 a24 : Option D} {x : Option D} {d : D} {e : Env} : SetE (a0 :: a1 :: a2 :: a3 :: a4 :: a5 :: a6 :: a7 :: a8 :: a9 :: a10 :: a11 :: a12 :: a13 :: a14 :: a15 :: a16 :: a17 :: a18 :: a19 :: a20 :: a21 :: a22 :: a23 :: a24 :: x :: e) 25 d (a0 :: a1 :: a2 :: a3 :: a4 :: a5 :: a6 :: a7 :: a8 :: a9 :: a10 :: a11 :: a12 :: a13 :: a14 :: a15 :: a16 :: a17 :: a18 :: a19 :: a20 :: a21 :: a22 :: a23 :: a24 :: some d :: e) := ⟨rfl⟩
/-! operators -/
instance (priority := 1100) {p : Prop} [Decidable p] [h : Tru p] : Sm1 .not_ (.bl (decide p)) (.bl false) := ⟨by rw [decide_eq_true h.h]; rfl⟩
class NotB (a : Bool) (b : outParam Bool) : Prop where h : (!a) = b
instance (priority := 1100) : NotB true false := ⟨rfl⟩
instance (priority := 1100) : NotB false true := ⟨rfl⟩
instance {a : Bool} : NotB a (!a) := ⟨rfl⟩
instance {a b : Bool} [p : NotB a b] : Sm1 .not_ (.bl a) (.bl b) := ⟨by rw [← p.h]; rfl⟩
class Dec (p : Prop) (b : outParam Bool) : Prop where h : (b = true ↔ p)
instance (priority := 1200) {p : Prop} [h : Tru p] : Dec p true := ⟨⟨fun _ => h.h, fun _ => rfl⟩⟩
instance (priority := 1100) {p : Prop} [h : Fls p] : Dec p false := ⟨⟨fun q => (by cases q), fun q => absurd q h.h⟩⟩
instance {p : Prop} [Decidable p] : Dec p (decide p) := ⟨decide_eq_true_iff⟩
theorem Dec.eq {p : Prop} [Decidable p] {b : Bool} (h : Dec p b) : decide p = b := by rw [Bool.eq_iff_iff, decide_eq_true_iff, h.h]
instance {i : Int} : Tru (i = i) := ⟨rfl⟩
instance {l : List Nat} : Tru (l = l) := ⟨rfl⟩
instance : Sm1 .len (.tup []) (.int 0) := ⟨rfl⟩
instance {a : D} : Sm1 .len (.tup [a]) (.int 1) := ⟨rfl⟩
instance {a b : D} : Sm1 .len (.tup [a, b]) (.int 2) := ⟨rfl⟩
instance {a b c : D} : Sm1 .len (.tup [a, b, c]) (.int 3) := ⟨rfl⟩
instance {a b c d : D} : Sm1 .len (.tup [a, b, c, d]) (.int 4) := ⟨rfl⟩
instance {a b c d e : D} : Sm1 .len (.tup [a, b, c, d, e]) (.int 5) := ⟨rfl⟩
instance {α : Type} {f : α → D} {L : List α} : Sm1 .len (.tup (L.map f)) (.int (L.length : Nat)) := ⟨by show some _ = _; rw [List.length_map]⟩
instance {α : Type} {f : α → D} {L : List α} : Sm1 .len (.lst (L.map f)) (.int (L.length : Nat)) := ⟨by show some _ = _; rw [List.length_map]⟩
instance (priority := 500) {xs : List D} : Sm1 .len (.tup xs) (.int (xs.length : Nat)) := ⟨rfl⟩
instance (priority := 500) {xs : List D} : Sm1 .len (.lst xs) (.int (xs.length : Nat)) := ⟨rfl⟩
class ShT (l : List Nat) : Prop where h : l.length ≤ BIG
instance {l : List Nat} [p : ShT l] : Sm1 .len (.str (tx l)) (.int (l.length : Nat)) := ⟨by rw [s_lenS (by rw [tx_len]; exact p.h), tx_len]⟩
instance {i : Int} : Sm1 .neg (.int i) (.int (-i)) := ⟨rfl⟩
instance {b : Bool} : Sm1 .int_ (.bl b) (.int (if b then 1 else 0)) := ⟨rfl⟩
instance {xs : List D} : Sm1 .tuple_ (.lst xs) (.tup xs) := ⟨rfl⟩
instance {xs : List D} : Sm1 .tuple_ (.tup xs) (.tup xs) := ⟨rfl⟩
instance {xs : List D} : Sm1 .list_ (.tup xs) (.lst xs) := ⟨rfl⟩
instance {xs : List D} : Sm1 .list_ (.lst xs) (.lst xs) := ⟨rfl⟩
instance {kvs : List (Key × D)} : Sm1 .dict_ (.dic kvs) (.dic kvs) := ⟨rfl⟩
instance {α : Type} {f : α → Bool} {L : List α} : Sm1 .all_ (.lst (L.map fun a => D.bl (f a))) (.bl (L.all f)) := ⟨by
  have := s_all (bs := L.map f)
  rw [List.map_map] at this
  rw [show (L.map fun d => D.bl (f d)) = L.map (D.bl ∘ f) from rfl, this, List.all_map]
  rfl⟩
theorem intsD_map {α : Type} (f : α → Int) (L : List α) : intsD (L.map fun a => D.int (f a)) = some (L.map f) := by
  induction L with
  | nil => rfl
  | cons b r ih => simp [intsD, ih]
instance {α : Type} {f : α → Int} {L : List α} : Sm1 .sum_ (.lst (L.map fun a => D.int (f a))) (.int (L.map f).sum) := ⟨by
  show (intsD _).map _ = _
  rw [intsD_map]; rfl⟩
instance {i j : Int} : Sm2 .add (.int i) (.int j) (.int (i + j)) := ⟨rfl⟩
instance {i j : Int} : Sm2 .sub (.int i) (.int j) (.int (i - j)) := ⟨rfl⟩
instance {i j : Int} [p : Sm64 i] : Sm2 .mul (.int i) (.int j) (.int (i * j)) := ⟨s_mul (mulOk_l p.h)⟩
instance {i j : Int} [p : Sm64 j] : Sm2 .mul (.int i) (.int j) (.int (i * j)) := ⟨s_mul (mulOk_r p.h)⟩
instance {i j : Int} [p : Pos j] : Sm2 .mod (.int i) (.int j) (.int (i % j)) := ⟨s_mod p.h⟩
instance {i j : Int} [p : Dvs j] : Sm2 .fdiv (.int i) (.int j) (.int (i / j)) := ⟨s_fdiv p.h.1 p.h.2⟩
instance : Sm2 .pow (.int 10) (.int 12) (.int 1000000000000) := ⟨by rw [s_pow (by decide)]; rfl⟩
instance : Sm2 .pow (.int 10) (.int 15) (.int 1000000000000000) := ⟨s_p15⟩
instance : Sm2 .pow (.int 10) (.int 28) (.int 10000000000000000000000000000) := ⟨by rw [s_pow (by decide)]; rfl⟩
instance : Sm2 .pow (.int 10) (.int 60) (.int 1000000000000000000000000000000000000000000000000000000000000) := ⟨s_p60⟩
instance : Sm2 .pow (.int 10) (.int 58) (.int 10000000000000000000000000000000000000000000000000000000000) := ⟨s_p58⟩
instance {i j : Int} {b : Bool} [p : Dec (i = j) b] : Sm2 .eq (.int i) (.int j) (.bl b) := ⟨by rw [s_eqI, p.eq]⟩
instance {i j : Int} {b c : Bool} [p : Dec (i = j) b] [q : NotB b c] : Sm2 .ne (.int i) (.int j) (.bl c) := ⟨by rw [s_neI, ← q.h, ← p.eq, ← decide_not]⟩
instance {i j : Int} {b : Bool} [p : Dec (i < j) b] : Sm2 .lt (.int i) (.int j) (.bl b) := ⟨by rw [s_lt, p.eq]⟩
instance {i j : Int} {b : Bool} [p : Dec (i ≤ j) b] : Sm2 .le (.int i) (.int j) (.bl b) := ⟨by rw [s_le, p.eq]⟩
instance {i j : Int} {b : Bool} [p : Dec (j < i) b] : Sm2 .gt (.int i) (.int j) (.bl b) := ⟨by rw [s_gt, p.eq]⟩
instance {i j : Int} {b : Bool} [p : Dec (j ≤ i) b] : Sm2 .ge (.int i) (.int j) (.bl b) := ⟨by rw [s_ge, p.eq]⟩
instance {i j : Bool} : Sm2 .eq (.bl i) (.bl j) (.bl (i == j)) := ⟨s_eqB⟩
instance {i j : Bool} : Sm2 .is_ (.bl i) (.bl j) (.bl (i == j)) := ⟨rfl⟩
instance (priority := 1100) : Sm2 .is_ (.bl true) (.bl true) (.bl true) := ⟨rfl⟩
instance (priority := 1100) : Sm2 .is_ (.bl false) (.bl false) (.bl true) := ⟨rfl⟩
instance (priority := 1100) : Sm2 .is_ (.bl true) (.bl false) (.bl false) := ⟨rfl⟩
instance (priority := 1100) : Sm2 .is_ (.bl false) (.bl true) (.bl false) := ⟨rfl⟩
instance {b : Bool} : Sm2 .is_ (.bl b) (.bl true) (.bl b) := ⟨by cases b <;> rfl⟩
instance {b c : Bool} [q : NotB b c] : Sm2 .is_ (.bl b) (.bl false) (.bl c) := ⟨by rw [← q.h]; cases b <;> rfl⟩
instance {b c : Bool} [q : NotB b c] : Sm2 .isnot (.bl b) (.bl true) (.bl c) := ⟨by rw [← q.h]; cases b <;> rfl⟩
instance {b : Bool} : Sm2 .isnot (.bl b) (.bl false) (.bl b) := ⟨by cases b <;> rfl⟩
/-- what is None -/
class IsN (d : D) (b : outParam Bool) : Prop where h : (match d with | .non => true | _ => false) = b
instance : IsN .non true := ⟨rfl⟩
instance {x : Bool} : IsN (.bl x) false := ⟨rfl⟩
instance {x : Int} : IsN (.int x) false := ⟨rfl⟩
instance {x : Str} : IsN (.str x) false := ⟨rfl⟩
instance {x : List D} : IsN (.tup x) false := ⟨rfl⟩
instance {x : List D} : IsN (.lst x) false := ⟨rfl⟩
instance {x : List (Key × D)} : IsN (.dic x) false := ⟨rfl⟩
theorem isSem_non {d : D} {b : Bool} (h : IsN d b) : isSem d .non = some b := by have := h.h; subst this; cases d <;> rfl
instance {d : D} {b : Bool} [p : IsN d b] : Sm2 .is_ d .non (.bl b) := ⟨by show (isSem d .non).map _ = _; rw [isSem_non p]; rfl⟩
instance {d : D} {b c : Bool} [p : IsN d b] [q : NotB b c] : Sm2 .isnot d .non (.bl c) := ⟨by show (isSem d .non).map _ = _; rw [isSem_non p, ← q.h]; rfl⟩
instance {i j : Int} : Sm2 .max2 (.int i) (.int j) (.int (if j > i then j else i)) := ⟨rfl⟩
instance {i j : Int} : Sm2 .min2 (.int i) (.int j) (.int (if j < i then j else i)) := ⟨rfl⟩
instance {x : D} {xs : List D} : Sm2 .ix (.tup (x :: xs)) (.int 0) x := ⟨s_ixT0⟩
instance {x y : D} {xs : List D} : Sm2 .ix (.tup (x :: y :: xs)) (.int 1) y := ⟨s_ixT1⟩
instance {x y z : D} {xs : List D} : Sm2 .ix (.tup (x :: y :: z :: xs)) (.int 2) z := ⟨s_ixT2⟩
instance {x y z w : D} {xs : List D} : Sm2 .ix (.tup (x :: y :: z :: w :: xs)) (.int 3) w := ⟨s_ixT (by decide) rfl⟩
instance {x : D} {xs : List D} : Sm2 .ix (.lst (x :: xs)) (.int 0) x := ⟨s_ixL (by decide) rfl⟩
instance {x y : D} {xs : List D} : Sm2 .ix (.lst (x :: y :: xs)) (.int 1) y := ⟨s_ixL (by decide) rfl⟩
instance {x y z : D} {xs : List D} : Sm2 .ix (.lst (x :: y :: z :: xs)) (.int 2) z := ⟨s_ixL (by decide) rfl⟩
instance {x : Int} : OfT .int (.int x) true := ⟨rfl⟩
instance {x : Bool} : OfT .int (.bl x) true := ⟨rfl⟩
instance : OfT .int .non false := ⟨rfl⟩
instance {x : Str} : OfT .int (.str x) false := ⟨rfl⟩
instance {x : List D} : OfT .int (.tup x) false := ⟨rfl⟩
instance {x : List D} : OfT .int (.lst x) false := ⟨rfl⟩
instance {x : List (Key × D)} : OfT .int (.dic x) false := ⟨rfl⟩
instance {x : Int} : OfT .bool (.int x) false := ⟨rfl⟩
instance {x : Bool} : OfT .bool (.bl x) true := ⟨rfl⟩
instance : OfT .bool .non false := ⟨rfl⟩
instance {x : Str} : OfT .bool (.str x) false := ⟨rfl⟩
instance {x : List D} : OfT .bool (.tup x) false := ⟨rfl⟩
instance {x : List D} : OfT .bool (.lst x) false := ⟨rfl⟩
instance {x : List (Key × D)} : OfT .bool (.dic x) false := ⟨rfl⟩
instance {x : Int} : OfT .str (.int x) false := ⟨rfl⟩
instance {x : Bool} : OfT .str (.bl x) false := ⟨rfl⟩
instance : OfT .str .non false := ⟨rfl⟩
instance {x : Str} : OfT .str (.str x) true := ⟨rfl⟩
instance {x : List D} : OfT .str (.tup x) false := ⟨rfl⟩
instance {x : List D} : OfT .str (.lst x) false := ⟨rfl⟩
instance {x : List (Key × D)} : OfT .str (.dic x) false := ⟨rfl⟩
instance {x : Int} : OfT .tuple (.int x) false := ⟨rfl⟩
instance {x : Bool} : OfT .tuple (.bl x) false := ⟨rfl⟩
instance : OfT .tuple .non false := ⟨rfl⟩
instance {x : Str} : OfT .tuple (.str x) false := ⟨rfl⟩
instance {x : List D} : OfT .tuple (.tup x) true := ⟨rfl⟩
instance {x : List D} : OfT .tuple (.lst x) false := ⟨rfl⟩
instance {x : List (Key × D)} : OfT .tuple (.dic x) false := ⟨rfl⟩
instance {x : Int} : OfT .list (.int x) false := ⟨rfl⟩
instance {x : Bool} : OfT .list (.bl x) false := ⟨rfl⟩
instance : OfT .list .non false := ⟨rfl⟩
instance {x : Str} : OfT .list (.str x) false := ⟨rfl⟩
instance {x : List D} : OfT .list (.tup x) false := ⟨rfl⟩
instance {x : List D} : OfT .list (.lst x) true := ⟨rfl⟩
instance {x : List (Key × D)} : OfT .list (.dic x) false := ⟨rfl⟩
instance {x : Int} : OfT .dict (.int x) false := ⟨rfl⟩
instance {x : Bool} : OfT .dict (.bl x) false := ⟨rfl⟩
instance : OfT .dict .non false := ⟨rfl⟩
instance {x : Str} : OfT .dict (.str x) false := ⟨rfl⟩
instance {x : List D} : OfT .dict (.tup x) false := ⟨rfl⟩
instance {x : List D} : OfT .dict (.lst x) false := ⟨rfl⟩
instance {x : List (Key × D)} : OfT .dict (.dic x) true := ⟨rfl⟩
class AddT (a b : List Nat) : Prop where h : a.length + b.length ≤ BIG
instance {a b : List Nat} [p : AddT a b] : Sm2 .add (.str (tx a)) (.str (tx b)) (.str (tx (a ++ b))) := ⟨s_addS p.h⟩
class AddL (a b : List D) : Prop where h : a.length + b.length ≤ BIG
instance {a b : List D} [p : AddL a b] : Sm2 .add (.tup a) (.tup b) (.tup (a ++ b)) := ⟨by show (if _ then _ else _) = _; rw [if_pos p.h]⟩
instance {a b : List D} [p : AddL a b] : Sm2 .add (.lst a) (.lst b) (.lst (a ++ b)) := ⟨by show (if _ then _ else _) = _; rw [if_pos p.h]⟩
instance {c : Nat} {l : List Nat} {b : Bool} [p : Dec (c ∈ l) b] : Sm2 .isin (.str (tx [c])) (.str (tx l)) (.bl b) := ⟨by rw [s_inS, p.eq]⟩
theorem s_eqT {a b : List Nat} : sem2 .eq (.str (tx a)) (.str (tx b)) = some (.bl (decide (a = b))) := by
  have e : (tx a == tx b) = decide (a = b) := by
    rw [Bool.eq_iff_iff, beq_iff_eq, decide_eq_true_eq]
    exact ⟨tx_inj, fun h => by rw [h]⟩
  simp [sem2, eqSem, plainD, toPy, PyData.depth, deq, e]
instance {a b : List Nat} {k : Bool} [p : Dec (a = b) k] : Sm2 .eq (.str (tx a)) (.str (tx b)) (.bl k) := ⟨by rw [s_eqT, p.eq]⟩
instance {a b : List Nat} {k : Bool} [p : Dec (a < b) k] : Sm2 .lt (.str (tx a)) (.str (tx b)) (.bl k) := ⟨by rw [s_ltS, p.eq]⟩
instance {xs : List D} {lo hi : Option Int} : Sli (.lst xs) lo hi (.lst (cutL xs lo hi)) := ⟨rfl⟩
instance {xs : List D} {lo hi : Option Int} : Sli (.tup xs) lo hi (.tup (cutL xs lo hi)) := ⟨rfl⟩
instance {l : List Nat} {lo hi : Option Int} [p : ShT l] : Sli (.str (tx l)) lo hi (.str (tx (cutL l lo hi))) := ⟨s_sliceS p.h⟩
instance {xs : List D} : Itr .of [.lst xs] xs := ⟨rfl⟩
instance {xs : List D} : Itr .of [.tup xs] xs := ⟨rfl⟩
instance {l : List Nat} : Itr .of [.str (tx l)] (l.map fun c => .str (tx [c])) := ⟨by show some (chars (tx l)) = _; rw [chars_tx]⟩
instance {xs : List D} : Itr .enum [.lst xs] (enumD 0 xs) := ⟨rfl⟩
instance {i : Int} [p : Sm62 i] : Itr .range [.int i] ((List.range i.toNat).map fun (k : Nat) => D.int (k : Int)) := ⟨by rw [it_rangeI p.h.1 p.h.2, rangeD_map]⟩
theorem rangeD_map1 (i : Int) (n : Nat) : rangeD i 1 n = (List.range n).map fun (k : Nat) => D.int (i + k) := by
  unfold rangeD
  exact List.map_congr_left fun k _ => by rw [Int.mul_one]
instance {i j : Int} [p : Sm62 i] [q : Sm62 j] : Itr .range [.int i, .int j] ((List.range (j - i).toNat).map fun (k : Nat) => D.int (i + k)) := ⟨by rw [it_range2 p.h.1 p.h.2 q.h.1 q.h.2, rangeD_map1]⟩
/-! comprehensions -/
theorem cmp_map {cf : CF} {env : Env} {elt : E} {tg : Tg} {α : Type} {e : α → D} {g : α → D} {L : List α} (h : ∀ a ∈ L, ∃ env', bindT tg (e a) env = some env' ∧ evalE cf env' elt = some (g a)) : Cmp cf env elt tg [] (L.map e) (L.map g) := ⟨compL_on fun a ha => by
  obtain ⟨env', h1, h2⟩ := h a ha
  simp [stepC, h1, h2]⟩
theorem cmp_filter {cf : CF} {env : Env} {elt c : E} {tg : Tg} {α : Type} {e : α → D} {g : α → D} {p : α → Bool} {L : List α} (h : ∀ a ∈ L, ∃ env', bindT tg (e a) env = some env' ∧ evalE cf env' c = some (.bl (p a)) ∧ (p a = true → evalE cf env' elt = some (g a))) : Cmp cf env elt tg [c] (L.map e) ((L.filter p).map g) := ⟨compL_filter fun a ha => by
  obtain ⟨env', h1, h2, h3⟩ := h a ha
  simp only [stepC, h1, Option.bind_some, cs_one, h2, asB_some]
  split
  · rename_i q; rw [h3 q]; rfl
  · rfl⟩
theorem ev_ok {cf : CF} {env env' : Env} {elt : E} {tg : Tg} {x y : D} [p : Bnd tg x env env'] [q : Ev cf env' elt y] : ∃ env', bindT tg x env = some env' ∧ evalE cf env' elt = some y := ⟨env', p.h, q.h⟩
instance (priority := 500) cmp_auto {cf : CF} {env : Env} {elt : E} {i : Nat} {α : Type} {e : α → D} {g : α → D} {env' : α → Env} {L : List α} [p : ∀ a, SetE env i (e a) (env' a)] [q : ∀ a, Ev cf (env' a) elt (g a)] : Cmp cf env elt (.name i) [] (L.map e) (L.map g) :=
  cmp_map fun a _ => ⟨env' a, by rw [b_name, (p a).h], (q a).h⟩
/-! statements, by what shall hold behind them -/
section
variable {cf : CF} {env env' : Env} {r : List S} {Q : Fl → Prop}
def Wp (cf : CF) (env : Env) (ss : List S) (Q : Fl → Prop) : Prop := ∃ fl, execSs cf env ss = some fl ∧ Q fl
def Thn (cf : CF) (r : List S) (Q : Fl → Prop) : Fl → Prop
  | .nxt e => Wp cf e r Q
  | fl => Q fl
/-- at the end of a loop's turn -/
def Lp (J : Env → Prop) (cf : CF) (r : List S) (Q : Fl → Prop) : Fl → Prop
  | .nxt e => J e
  | .cnt e => J e
  | .brk e => Wp cf e r Q
  | .ret d e => Q (.ret d e)
def Ends (io : List Nat) (x : D × List D) : Fl → Prop := fun fl => outF io fl = some x
theorem wp_mono {ss : List S} {P : Fl → Prop} (h : Wp cf env ss P) (k : ∀ fl, P fl → Q fl) : Wp cf env ss Q := by
  obtain ⟨fl, h1, h2⟩ := h
  exact ⟨fl, h1, k fl h2⟩
theorem wp_nil (h : Q (.nxt env)) : Wp cf env [] Q := ⟨_, rfl, h⟩
theorem wp_nilT (h : Wp cf env r Q) : Wp cf env [] (Thn cf r Q) := ⟨_, rfl, h⟩
theorem wp_step {s : S} {fl : Fl} (h : execS cf env s = some fl) (k : Thn cf r Q fl) : Wp cf env (s :: r) Q := by
  cases fl with
  | nxt e =>
    obtain ⟨fl, h1, h2⟩ := k
    exact ⟨fl, by rw [xs_cons, h, Option.bind_some, thenF_nxt]; exact h1, h2⟩
  | ret d e => exact ⟨_, by rw [xs_cons, h, Option.bind_some, thenF_ret], k⟩
  | brk e => exact ⟨_, by rw [xs_cons, h, Option.bind_some, thenF_brk], k⟩
  | cnt e => exact ⟨_, by rw [xs_cons, h, Option.bind_some, thenF_cnt], k⟩
theorem wp_asg {i : Nat} {o : Bool} {e : E} {d : D} [p : Ev cf env e d] [q : SetE env i d env'] (k : Wp cf env' r Q) : Wp cf env (.asg i o e :: r) Q :=
  wp_step (fl := .nxt env') (by rw [x_asg, p.h, Option.map_some, q.h]) k
theorem wp_asgT {is : List Nat} {e : E} {d : D} [p : Ev cf env e d] [q : Bnd (.tup is) d env env'] (k : Wp cf env' r Q) : Wp cf env (.asgT is e :: r) Q :=
  wp_step (fl := .nxt env') (by rw [x_asgT, p.h, Option.bind_some, q.h]; rfl) k
theorem wp_ret {e : E} {d : D} [p : Ev cf env e d] (k : Q (.ret d env)) : Wp cf env (.ret e :: r) Q :=
  wp_step (fl := .ret d env) (by rw [x_ret, p.h]; rfl) k
theorem wp_retN (k : Q (.ret .non env)) : Wp cf env (.retN :: r) Q := wp_step (fl := .ret .non env) rfl k
theorem wp_frz {i : Nat} (k : Wp cf env r Q) : Wp cf env (.frz i :: r) Q := wp_step (fl := .nxt env) rfl k
theorem wp_pass (k : Wp cf env r Q) : Wp cf env (.pass :: r) Q := wp_step (fl := .nxt env) rfl k
theorem wp_expr {e : E} {d : D} [p : Ev cf env e d] (k : Wp cf env r Q) : Wp cf env (.expr e :: r) Q := wp_step (fl := .nxt env) (by rw [execS, p.h]) k
theorem wp_brk (k : Q (.brk env)) : Wp cf env (.brk :: r) Q := wp_step (fl := .brk env) rfl k
theorem wp_cnt (k : Q (.cnt env)) : Wp cf env (.cnt :: r) Q := wp_step (fl := .cnt env) rfl k
theorem thn_of {ss : List S} (h : Wp cf env ss (Thn cf r Q)) {s : S} (e : execS cf env s = execSs cf env ss) : Wp cf env (s :: r) Q := by
  obtain ⟨fl, h1, h2⟩ := h
  exact wp_step (fl := fl) (by rw [e, h1]) (by cases fl <;> exact h2)
theorem wp_ifT {c : E} {a b : List S} [p : Ev cf env c (.bl true)] (k : Wp cf env a (Thn cf r Q)) : Wp cf env (.iff c a b :: r) Q :=
  thn_of k (by rw [x_iff, p.h, asB_some, Option.bind_some, if_pos rfl])
theorem wp_ifF {c : E} {a b : List S} [p : Ev cf env c (.bl false)] (k : Wp cf env b (Thn cf r Q)) : Wp cf env (.iff c a b :: r) Q :=
  thn_of k (by rw [x_iff, p.h, asB_some, Option.bind_some, if_neg (by decide)])
theorem wp_if {c : E} {a b : List S} {x : Bool} [p : Ev cf env c (.bl x)] (k : x = true → Wp cf env a (Thn cf r Q)) (k' : x = false → Wp cf env b (Thn cf r Q)) : Wp cf env (.iff c a b :: r) Q := by
  cases x with
  | true => exact wp_ifT (k rfl)
  | false => exact wp_ifF (k' rfl)
/-- conditions cut up -/
theorem x_if_or {x y : E} {a b : List S} : execS cf env (.iff (.or_ x y) a b) = execS cf env (.iff x a [.iff y a b]) := by
  rw [x_iff, x_iff, e_or]
  cases asB (evalE cf env x) with
  | none => rfl
  | some k =>
    cases k with
    | true => rfl
    | false =>
      simp only [Option.bind_some, Bool.false_eq_true, if_false, xs_cons]
      rw [x_iff]
      cases evalE cf env y with
      | none => rfl
      | some z => cases z with
        | bl k => simp only [asB, Option.map_some, Option.bind_some]; cases (if k = true then execSs cf env a else execSs cf env b) with
          | none => rfl
          | some fl => cases fl <;> rfl
        | _ => rfl
theorem wp_if_or {x y : E} {a b : List S} (k : Wp cf env (.iff x a [.iff y a b] :: r) Q) : Wp cf env (.iff (.or_ x y) a b :: r) Q := by
  obtain ⟨fl, h1, h2⟩ := k
  exact ⟨fl, by rw [xs_cons, x_if_or, ← xs_cons]; exact h1, h2⟩
theorem x_if_and {x y : E} {a b : List S} : execS cf env (.iff (.and_ x y) a b) = execS cf env (.iff x [.iff y a b] b) := by
  rw [x_iff, x_iff, e_and]
  cases asB (evalE cf env x) with
  | none => rfl
  | some k =>
    cases k with
    | false => rfl
    | true =>
      simp only [Option.bind_some, if_true, xs_cons]
      rw [x_iff]
      cases evalE cf env y with
      | none => rfl
      | some z => cases z with
        | bl k => simp only [asB, Option.map_some, Option.bind_some]; cases (if k = true then execSs cf env a else execSs cf env b) with
          | none => rfl
          | some fl => cases fl <;> rfl
        | _ => rfl
theorem wp_if_and {x y : E} {a b : List S} (k : Wp cf env (.iff x [.iff y a b] b :: r) Q) : Wp cf env (.iff (.and_ x y) a b :: r) Q := by
  obtain ⟨fl, h1, h2⟩ := k
  exact ⟨fl, by rw [xs_cons, x_if_and, ← xs_cons]; exact h1, h2⟩
theorem wp_ret_and {x y : E} (k : Wp cf env (.iff x [.iff y [.ret (.lit (.bl true))] [.ret (.lit (.bl false))]] [.ret (.lit (.bl false))] :: r) Q) : Wp cf env (.ret (.and_ x y) :: r) Q := by
  obtain ⟨fl, h1, h2⟩ := k
  refine ⟨fl, ?_, h2⟩
  rw [xs_cons] at h1 ⊢
  rw [← h1]
  congr 1
  rw [x_ret, x_iff, e_and]
  cases asB (evalE cf env x) with
  | none => rfl
  | some k =>
    cases k with
    | false => rfl
    | true =>
      simp only [Option.bind_some, if_true, xs_cons]
      rw [x_iff]
      cases evalE cf env y with
      | none => rfl
      | some z => cases z with
        | bl k => cases k <;> rfl
        | _ => rfl
theorem wp_app {i : Nat} {e : E} {xs : List D} {d : D} [l : Look env i (.lst xs)] [p : Ev cf env e d] [q : SetE env i (.lst (xs ++ [d])) env'] (hl : xs.length < BIG) (k : Wp cf env' r Q) : Wp cf env (.app i e :: r) Q :=
  wp_step (fl := .nxt env') (by rw [x_app l.h hl, p.h, Option.map_some, q.h]) k
theorem wp_setD {i : Nat} {k v : E} {kvs : List (Key × D)} {d kd : D} {key : Key} [l : Look env i (.dic kvs)] [p : Ev cf env v d] [p' : Ev cf env k kd] (hk : keyOf kd = some key) (hl : kvs.length < BIG) [q : SetE env i (.dic (dput kvs key d)) env'] (w : Wp cf env' r Q) : Wp cf env (.setix i k v :: r) Q :=
  wp_step (fl := .nxt env') (by rw [x_setD l.h p.h p'.h hk hl, q.h]) w
theorem wp_aug {i : Nat} {o : Op2} {e : E} {x y : Int} [l : Look env i (.int x)] [p : Ev cf env e (.int y)] [q : SetE env i (.int (augI o x y)) env'] (w : Wp cf env' r Q) : Wp cf env (.aug i o e :: r) Q :=
  wp_step (fl := .nxt env') (by rw [execS, l.h]; simp only []; rw [p.h]; simp only []; rw [q.h]) w
/-- a walk: what holds of what is gone through so far -/
theorem forL_wp {α : Type} {enc : α → D} {L : List α} {tg : Tg} {body : List S} {J : List α → Env → Prop} (hs : ∀ pre a post e, pre ++ a :: post = L → J pre e → ∃ e', bindT tg (enc a) e = some e' ∧ Wp cf e' body (Lp (J (pre ++ [a])) cf r Q)) :
    ∀ (post pre : List α) (e : Env), pre ++ post = L → J pre e → (∀ e, J L e → Wp cf e r Q) → ∃ fl, forL (stepF cf tg body) e (post.map enc) = some fl ∧ Thn cf r Q fl
  | [], pre, e, hl, hj, hk => ⟨.nxt e, rfl, hk e (by rw [List.append_nil] at hl; rw [← hl]; exact hj)⟩
  | a :: post, pre, e, hl, hj, hk => by
    obtain ⟨e', h1, fl, h2, h3⟩ := hs pre a post e hl hj
    rw [List.map_cons, forL]
    have e1 : stepF cf tg body e (enc a) = some fl := by unfold stepF; rw [h1, Option.bind_some, h2]
    rw [e1]
    cases fl with
    | nxt e2 => exact forL_wp hs post (pre ++ [a]) e2 (by simpa using hl) h3 hk
    | cnt e2 => exact forL_wp hs post (pre ++ [a]) e2 (by simpa using hl) h3 hk
    | brk e2 => exact ⟨.nxt e2, rfl, h3⟩
    | ret d e2 => exact ⟨.ret d e2, rfl, h3⟩
theorem wp_for {α : Type} {enc : α → D} {L : List α} {tg : Tg} {io : ItOp} {src : List E} {body : List S} {ss : List D} (J : List α → Env → Prop) [p : Evs cf env src ss] [q : Itr io ss (L.map enc)] (h0 : J [] env)
    (hs : ∀ pre a post e, pre ++ a :: post = L → J pre e → ∃ e', bindT tg (enc a) e = some e' ∧ Wp cf e' body (Lp (J (pre ++ [a])) cf r Q)) (hk : ∀ e, J L e → Wp cf e r Q) : Wp cf env (.for_ tg io src body :: r) Q := by
  obtain ⟨fl, h1, h2⟩ := forL_wp hs L [] env rfl h0 hk
  refine wp_step (fl := fl) ?_ h2
  rw [x_for, p.h, Option.bind_some, q.h, Option.bind_some, h1]
theorem bnd_ok {tg : Tg} {x : D} {P : Env → Prop} [p : Bnd tg x env env'] (h : P env') : ∃ e', bindT tg x env = some e' ∧ P e' := ⟨env', p.h, h⟩
theorem run_wp {fd : FDef} {args : List D} {x : D × List D} (h : args.length = fd.ps.length) (w : Wp cf (args.map some ++ List.replicate (fd.N.length - fd.ps.length) none) fd.body (Ends fd.io x)) : runD cf fd args = some x := by
  obtain ⟨fl, h1, h2⟩ := w
  rw [runD_eq h, h1, Option.bind_some]
  exact h2
end
end PyI
/-! the typed data -/
namespace PyI
open PySem
instance {n : Int} {L : List Part} : Sm2 .ix (lenD n L) (.int 0) (.int n) := ⟨s_ixT0⟩
instance {n : Int} {L : List Part} : Sm2 .ix (lenD n L) (.int 1) (.tup (partsD L)) := ⟨s_ixT1⟩
instance {n : Int} {L : List Part} : Sm1 .len (lenD n L) (.int 2) := ⟨rfl⟩
instance {n : Int} {L : List Part} : OfT .tuple (lenD n L) true := ⟨rfl⟩
instance {n : Int} {L : List Part} {env env' : Env} {is : List Nat} [p : SetA env is [.int n, .tup (partsD L)] env'] : Bnd (.tup is) (lenD n L) env env' := ⟨b_tup p.h.1 |>.trans (by rw [p.h.2])⟩
instance {q : Part} : Sm2 .ix (partD q) (.int 0) (.str (tx q.1)) := ⟨s_ixT0⟩
instance {q : Part} : Sm2 .ix (partD q) (.int 1) (.int q.2) := ⟨s_ixT1⟩
instance {q : Part} {env env' : Env} {is : List Nat} [p : SetA env is [.str (tx q.1), .int q.2] env'] : Bnd (.tup is) (partD q) env env' := ⟨b_tup p.h.1 |>.trans (by rw [p.h.2])⟩
instance {L : List Part} : Itr .of [.tup (partsD L)] (L.map partD) := ⟨rfl⟩
instance {L : List Part} : Itr .of [.lst (partsD L)] (L.map partD) := ⟨rfl⟩
instance {L : List Part} : Sm1 .len (.tup (partsD L)) (.int (L.length : Nat)) := ⟨by show some _ = _; rw [partsD, List.length_map]⟩
end PyI
end

section
set_option maxRecDepth 100000
set_option maxHeartbeats 4000000
namespace PyI
open PySem
/-! lengths of lists -/
class LenF {α : Type} (L : List α) (n : Nat) : Prop where h : L.length ≤ n
instance {α : Type} {n : Nat} : LenF ([] : List α) n := ⟨Nat.zero_le _⟩
instance {α : Type} {a : α} {L : List α} {n : Nat} [p : LenF L n] : LenF (a :: L) (n + 1) := ⟨Nat.succ_le_succ p.h⟩
class LenB {α : Type} (L : List α) : Prop where h : L.length ≤ 4000
class LenN {α : Type} (k : Nat) (L : List α) : Prop where h : L.length ≤ 4000 * 2 ^ k
instance lenB_lit {α : Type} {L : List α} [p : LenF L 40] : LenB L := ⟨Nat.le_trans p.h (by decide)⟩
instance (priority := 500) lenN_of {α : Type} {k : Nat} {L : List α} [p : LenB L] : LenN k L := ⟨Nat.le_trans p.h (Nat.le_mul_of_pos_right _ (Nat.two_pow_pos k))⟩
instance {α : Type} {k : Nat} {a b : List α} [p : LenN k a] [q : LenN k b] : LenN (k + 1) (a ++ b) := ⟨by
  have := p.h; have := q.h
  rw [List.length_append, Nat.pow_succ]; omega⟩
instance {α β : Type} {k : Nat} {f : α → β} {L : List α} [p : LenN k L] : LenN k (L.map f) := ⟨by rw [List.length_map]; exact p.h⟩
instance {α : Type} {k : Nat} {f : α → Bool} {L : List α} [p : LenN k L] : LenN k (L.filter f) := ⟨Nat.le_trans (List.length_filter_le _ _) p.h⟩
instance {k : Nat} {L : List Part} [p : LenN k L] : LenN k (partsD L) := ⟨by unfold partsD; rw [List.length_map]; exact p.h⟩
theorem cutL_len {α : Type} (L : List α) (lo hi : Option Int) : (cutL L lo hi).length ≤ L.length := by
  unfold cutL
  rw [List.length_take, List.length_drop]; omega
instance {α : Type} {k : Nat} {L : List α} {lo hi : Option Int} [p : LenN k L] : LenN k (cutL L lo hi) := ⟨Nat.le_trans (cutL_len _ _ _) p.h⟩
theorem enumD_lenI : ∀ (k : Nat) (xs : List D), (enumD k xs).length = xs.length
  | _, [] => rfl
  | k, x :: r => by rw [enumD, List.length_cons, enumD_lenI, List.length_cons]
instance {j k : Nat} {L : List D} [p : LenN j L] : LenN j (enumD k L) := ⟨by rw [enumD_lenI]; exact p.h⟩
instance {a b : List D} [p : LenN 6 a] [q : LenN 6 b] : AddL a b := ⟨by have := p.h; have := q.h; unfold BIG; omega⟩
instance {a b : List Nat} [p : LenN 6 a] [q : LenN 6 b] : AddT a b := ⟨by have := p.h; have := q.h; unfold BIG; omega⟩
instance {a : List Nat} [p : LenN 6 a] : ShT a := ⟨by have := p.h; unfold BIG; omega⟩
instance {a : List D} [p : LenN 6 a] : Shrt a := ⟨by have := p.h; unfold BIG; omega⟩
theorem enumD_map {α : Type} (f : α → D) : ∀ (k : Nat) (L : List α), enumD k (L.map f) = (L.zipIdx k).map fun p => .tup [.int (p.2 : Nat), f p.1]
  | _, [] => rfl
  | k, a :: r => by rw [List.map_cons, enumD, enumD_map f (k + 1) r, List.zipIdx_cons, List.map_cons]
instance (priority := 1100) itr_enumM {α : Type} {f : α → D} {L : List α} : Itr .enum [.lst (L.map f)] ((L.zipIdx 0).map fun p => .tup [.int (p.2 : Nat), f p.1]) := ⟨by rw [← enumD_map]; rfl⟩
instance {α : Type} {L : List α} {j k : Nat} [p : LenN j L] : LenN j (L.zipIdx k) := ⟨by rw [List.length_zipIdx]; exact p.h⟩
/-! plain data -/
class PlnD (n : Nat) (d : D) : Prop where h : plainD d = true ∧ (toPy d).depth ≤ n
class PlnDs (n : Nat) (ds : List D) : Prop where h : plainDs ds = true ∧ PyData.depthAll (toPys ds) ≤ n
instance {n : Nat} : PlnD n .non := ⟨rfl, Nat.zero_le _⟩
instance {n : Nat} {b : Bool} : PlnD n (.bl b) := ⟨rfl, Nat.zero_le _⟩
instance {n : Nat} {i : Int} : PlnD n (.int i) := ⟨rfl, Nat.zero_le _⟩
instance {n : Nat} {s : Str} : PlnD n (.str s) := ⟨rfl, Nat.zero_le _⟩
instance {n : Nat} : PlnDs n [] := ⟨rfl, Nat.zero_le _⟩
instance {n : Nat} {d : D} {ds : List D} [p : PlnD n d] [q : PlnDs n ds] : PlnDs n (d :: ds) := ⟨by simp [plainDs, p.h.1, q.h.1], by
  show max (toPy d).depth (PyData.depthAll (toPys ds)) ≤ n
  exact Nat.max_le.mpr ⟨p.h.2, q.h.2⟩⟩
instance plnT {n : Nat} {ds : List D} [q : PlnDs n ds] : PlnD (n + 1) (.tup ds) := ⟨q.h.1, Nat.succ_le_succ q.h.2⟩
instance plnL {n : Nat} {ds : List D} [q : PlnDs n ds] : PlnD (n + 1) (.lst ds) := ⟨q.h.1, Nat.succ_le_succ q.h.2⟩
theorem plnDs_of {n : Nat} : ∀ {ds : List D}, (∀ d ∈ ds, PlnD n d) → PlnDs n ds
  | [], _ => inferInstance
  | d :: r, h => by
    have := h d List.mem_cons_self
    have := plnDs_of fun d hd => h d (List.mem_cons_of_mem _ hd)
    infer_instance
instance plnM {n : Nat} {α : Type} {f : α → D} {L : List α} [p : ∀ a, PlnD n (f a)] : PlnDs n (L.map f) := ⟨(plnDs_of fun d hd => by obtain ⟨a, _, rfl⟩ := List.mem_map.mp hd; exact p a).h⟩
instance {n : Nat} {q : Part} : PlnD (n + 1) (partD q) := by unfold partD; infer_instance
instance plnP {n : Nat} {L : List Part} : PlnDs (n + 1) (partsD L) := by unfold partsD; infer_instance
instance plnN {n : Nat} {i : Int} {L : List Part} : PlnD (n + 3) (lenD i L) := by unfold lenD; infer_instance
mutual
theorem deq_refl : ∀ {d : D}, plainD d = true → deq d d = true
  | .non, _ => rfl
  | .bl b, _ => by show (b == b) = true; simp
  | .int b, _ => by show (b == b) = true; simp
  | .str b, _ => by show (b == b) = true; simp
  | .tup xs, h => deqs_refl (ds := xs) h
  | .lst xs, h => deqs_refl (ds := xs) h
  | .dic _, h => by cases h
theorem deqs_refl : ∀ {ds : List D}, plainDs ds = true → deqs ds ds = true
  | [], _ => rfl
  | d :: r, h => by
    rw [plainDs, Bool.and_eq_true] at h
    rw [deqs, deq_refl h.1, deqs_refl h.2]; rfl
end

mutual
def noBl : D → Bool
  | .bl _ => false
  | .tup xs => noBls xs
  | .lst xs => noBls xs
  | .dic _ => false
  | _ => true
def noBls : List D → Bool
  | [] => true
  | x :: xs => noBl x && noBls xs
end
mutual
theorem deq_eq : ∀ {d e : D}, noBl d = true → noBl e = true → deq d e = true → d = e
  | .non, e, _, h', h => by cases e <;> first | rfl | cases h | cases h'
  | .bl _, _, h0, _, _ => by cases h0
  | .int i, e, _, h', h => by
    cases e with
    | int j => have h : (i == j) = true := h; rw [eq_of_beq h]
    | bl _ => cases h'
    | _ => cases h
  | .str i, e, _, h', h => by
    cases e with
    | str j => have h : (i == j) = true := h; rw [eq_of_beq h]
    | _ => cases h
  | .tup xs, e, h0, h', h => by
    cases e with
    | tup ys => rw [deqs_eq (ds := xs) (es := ys) h0 h' h]
    | _ => cases h
  | .lst xs, e, h0, h', h => by
    cases e with
    | lst ys => rw [deqs_eq (ds := xs) (es := ys) h0 h' h]
    | _ => cases h
  | .dic _, _, h0, _, _ => by cases h0
theorem deqs_eq : ∀ {ds es : List D}, noBls ds = true → noBls es = true → deqs ds es = true → ds = es
  | [], [], _, _, _ => rfl
  | [], _ :: _, _, _, h => by cases h
  | _ :: _, [], _, _, h => by cases h
  | a :: r, b :: q, h0, h', h => by
    rw [noBls, Bool.and_eq_true] at h0 h'
    rw [deqs, Bool.and_eq_true] at h
    rw [deq_eq h0.1 h'.1 h.1, deqs_eq h0.2 h'.2 h.2]
end
class NoB (d : D) : Prop where h : noBl d = true
class NoBs (d : List D) : Prop where h : noBls d = true
instance : NoB .non := ⟨rfl⟩
instance {i : Int} : NoB (.int i) := ⟨rfl⟩
instance {i : Str} : NoB (.str i) := ⟨rfl⟩
instance {xs : List D} [p : NoBs xs] : NoB (.tup xs) := ⟨p.h⟩
instance {xs : List D} [p : NoBs xs] : NoB (.lst xs) := ⟨p.h⟩
instance : NoBs [] := ⟨rfl⟩
instance {d : D} {xs : List D} [p : NoB d] [q : NoBs xs] : NoBs (d :: xs) := ⟨by simp [noBls, p.h, q.h]⟩
theorem noBs_of : ∀ {ds : List D}, (∀ d ∈ ds, NoB d) → NoBs ds
  | [], _ => inferInstance
  | d :: r, h => by
    have := h d List.mem_cons_self
    have := noBs_of fun d hd => h d (List.mem_cons_of_mem _ hd)
    infer_instance
instance {α : Type} {f : α → D} {L : List α} [p : ∀ a, NoB (f a)] : NoBs (L.map f) := ⟨(noBs_of fun d hd => by obtain ⟨a, _, rfl⟩ := List.mem_map.mp hd; exact p a).h⟩
instance {q : Part} : NoB (partD q) := by unfold partD; infer_instance
instance {L : List Part} : NoBs (partsD L) := by unfold partsD; infer_instance
instance {n : Int} {L : List Part} : NoB (lenD n L) := by unfold lenD; infer_instance
theorem eqSem_plnD {x y : D} (hx : PlnD 12 x) (hy : PlnD 12 y) : eqSem x y = some (deq x y) := by
  have h1 : (decide ((toPy x).depth ≤ 100) || decide ((toPy y).depth ≤ 100)) = true := by
    have := hx.h.2
    simp only [Bool.or_eq_true, decide_eq_true_eq]; omega
  have h2 : (plainD x && plainD y && (decide ((toPy x).depth ≤ 100) || decide ((toPy y).depth ≤ 100))) = true := by rw [hx.h.1, hy.h.1, h1]; rfl
  have nd : ∀ kvs, x ≠ .dic kvs := fun kvs e => by have := hx.h.1; rw [e] at this; cases this
  unfold eqSem
  split
  · rename_i e; exact absurd rfl (nd _)
  · rw [if_pos h2]
theorem eqSem_dec {x y : D} {b : Bool} (hx : PlnD 12 x) (hy : PlnD 12 y) (nx : NoB x) (ny : NoB y) (p : Dec (x = y) b) : eqSem x y = some b := by
  rw [eqSem_plnD hx hy]
  congr 1
  rw [Bool.eq_iff_iff, p.h]
  exact ⟨fun h => deq_eq nx.h ny.h h, fun h => by rw [h]; exact deq_refl hy.h.1⟩
instance (priority := 1200) eq_same {x : D} [p : PlnD 12 x] : Sm2 .eq x x (.bl true) := ⟨by show (eqSem x x).map _ = _; rw [eqSem_plnD p p, deq_refl p.h.1]; rfl⟩
instance (priority := 1200) ne_same {x : D} [p : PlnD 12 x] : Sm2 .ne x x (.bl false) := ⟨by show (eqSem x x).map _ = _; rw [eqSem_plnD p p, deq_refl p.h.1]; rfl⟩
class EqD (x y : D) (b : outParam Bool) : Prop where h : (b = true ↔ x = y)
instance (priority := 400) {x y : D} {b : Bool} [p : PlnD 12 x] [q : PlnD 12 y] [nx : NoB x] [ny : NoB y] [e : EqD x y b] : Sm2 .eq x y (.bl b) := ⟨by show (eqSem x y).map _ = _; rw [eqSem_dec p q nx ny ⟨e.h⟩]; rfl⟩
instance (priority := 400) {x y : D} {b c : Bool} [p : PlnD 12 x] [q : PlnD 12 y] [nx : NoB x] [ny : NoB y] [e : EqD x y b] [o : NotB b c] : Sm2 .ne x y (.bl c) := ⟨by show (eqSem x y).map _ = _; rw [eqSem_dec p q nx ny ⟨e.h⟩, ← o.h]; rfl⟩
theorem partD_inj {p q : Part} (h : partD p = partD q) : p = q := by
  unfold partD at h
  injection h with h
  injection h with h1 h2
  injection h1 with h1
  injection h2 with h2
  injection h2 with h2
  exact Prod.ext (tx_inj h1) h2
theorem partsD_inj {p q : List Part} (h : partsD p = partsD q) : p = q := List.map_inj_right (fun _ _ => partD_inj) |>.mp h
theorem lenD_inj {n m : Int} {p q : List Part} (h : lenD n p = lenD m q) : n = m ∧ p = q := by
  unfold lenD at h
  injection h with h
  injection h with h1 h2
  injection h1 with h1
  injection h2 with h2
  injection h2 with h2
  exact ⟨h1, partsD_inj h2⟩
instance {n m : Int} {p q : List Part} {b : Bool} [d : Dec (n = m ∧ p = q) b] : EqD (lenD n p) (lenD m q) b := ⟨by rw [d.h]; exact ⟨fun ⟨a, b⟩ => by rw [a, b], lenD_inj⟩⟩
instance {p q : List Part} {b : Bool} [d : Dec (p = q) b] : EqD (.tup (partsD p)) (.tup (partsD q)) b := ⟨by rw [d.h]; exact ⟨fun a => by rw [a], fun h => partsD_inj (by injection h)⟩⟩
instance {p q : List Part} {b : Bool} [d : Dec (p = q) b] : EqD (.lst (partsD p)) (.lst (partsD q)) b := ⟨by rw [d.h]; exact ⟨fun a => by rw [a], fun h => partsD_inj (by injection h)⟩⟩
instance (priority := 1100) all_true {α : Type} {L : List α} : Sm1 .all_ (.lst (L.map fun _ => D.bl true)) (.bl true) := ⟨by
  show (boolsD _).map _ = _
  have : ∀ L : List α, (boolsD (L.map fun _ => D.bl true)).map (fun bs => D.bl (bs.all id)) = some (.bl true) := by
    intro L
    have := s_all (bs := L.map fun _ => true)
    rw [List.map_map] at this
    have e : (L.map fun _ => D.bl true) = L.map (D.bl ∘ fun _ => true) := rfl
    rw [e]
    refine Eq.trans this ?_
    simp
  exact this L⟩
instance all_nil : Sm1 .all_ (.lst []) (.bl true) := ⟨rfl⟩
instance all_consT {r : List D} {b : Bool} [p : Sm1 .all_ (.lst r) (.bl b)] : Sm1 .all_ (.lst (.bl true :: r)) (.bl b) := ⟨by
  have h := p.h
  show (boolsD (.bl true :: r)).map (fun bs => D.bl (bs.all id)) = _
  have h : (boolsD r).map (fun bs => D.bl (bs.all id)) = some (.bl b) := h
  rw [boolsD]
  cases e : boolsD r with
  | none => rw [e] at h; cases h
  | some bs => rw [e] at h; simpa using h⟩
instance (priority := 1050) {α : Type} {f : α → D} {L : List α} {lo hi : Option Int} : Sli (.lst (L.map f)) lo hi (.lst ((cutL L lo hi).map f)) := ⟨by
  show some (D.lst (cutL (L.map f) lo hi)) = _
  unfold cutL
  rw [List.map_take, List.map_drop, List.length_map]⟩
instance (priority := 1050) {α : Type} {f : α → D} {L : List α} {lo hi : Option Int} : Sli (.tup (L.map f)) lo hi (.tup ((cutL L lo hi).map f)) := ⟨by
  show some (D.tup (cutL (L.map f) lo hi)) = _
  unfold cutL
  rw [List.map_take, List.map_drop, List.length_map]⟩
/-! comprehensions over literal lists -/
theorem cmp_cons {cf : CF} {env env' : Env} {elt : E} {tg : Tg} {x y : D} {xs ys : List D} (p : Bnd tg x env env') (q : Ev cf env' elt y) (r : Cmp cf env elt tg [] xs ys) : Cmp cf env elt tg [] (x :: xs) (y :: ys) := ⟨by
  rw [compL]
  have : stepC cf env elt tg [] x = some (some y) := by simp [stepC, p.h, q.h]
  rw [this]
  simp only []
  rw [r.h]; rfl⟩
instance cmp_nilI {cf : CF} {env : Env} {elt : E} {tg : Tg} {cs : List E} : Cmp cf env elt tg cs [] [] := ⟨rfl⟩
instance cmp_consI {cf : CF} {env env' : Env} {elt : E} {tg : Tg} {x y : D} {xs ys : List D} [p : Bnd tg x env env'] [q : Ev cf env' elt y] [r : Cmp cf env elt tg [] xs ys] : Cmp cf env elt tg [] (x :: xs) (y :: ys) := cmp_cons p q r
theorem ev_compM {cf : CF} {env : Env} {elt : E} {tg : Tg} {io : ItOp} {src : List E} {ss : List D} {α : Type} {e : α → D} {L : List α} (g : α → D) [p : Evs cf env src ss] [q : Itr io ss (L.map e)] [s : Shrt (L.map e)] (h : ∀ a ∈ L, ∃ env', bindT tg (e a) env = some env' ∧ evalE cf env' elt = some (g a)) : Ev cf env (.comp elt tg io src []) (.lst (L.map g)) :=
  have := cmp_map (cf := cf) (env := env) (elt := elt) (tg := tg) h
  inferInstance
theorem ev_compF {cf : CF} {env : Env} {elt c : E} {tg : Tg} {io : ItOp} {src : List E} {ss : List D} {α : Type} {e : α → D} {L : List α} (pr : α → Bool) (g : α → D) [p : Evs cf env src ss] [q : Itr io ss (L.map e)] [s : Shrt (L.map e)] (h : ∀ a ∈ L, ∃ env', bindT tg (e a) env = some env' ∧ evalE cf env' c = some (.bl (pr a)) ∧ (pr a = true → evalE cf env' elt = some (g a))) : Ev cf env (.comp elt tg io src [c]) (.lst ((L.filter pr).map g)) :=
  have := cmp_filter (cf := cf) (env := env) (elt := elt) (tg := tg) (c := c) h
  inferInstance
/-! texts of codes -/
class TxL (s : Str) (l : outParam (List Nat)) : Prop where h : s = tx l
instance (priority := 1100) ev_litT {cf : CF} {env : Env} {s : Str} {l : List Nat} [p : TxL s l] : Ev cf env (.lit (.str s)) (.str (tx l)) := ⟨by rw [← p.h]; rfl⟩
instance (priority := 1100) ev_glbT {cf : CF} {env : Env} {x s : Str} {l : List Nat} [p : TxL s l] : Ev cf env (.glb x (.str s)) (.str (tx l)) := ⟨by rw [← p.h]; rfl⟩
instance : TxL (Str.ofString "") [] := ⟨nil_tx⟩
instance : TxL (Str.ofString "abcdefghijklmnopqrstuvwxyz") alpha := ⟨abc_tx⟩
/-- an item of a text, of a list -/
class IxT (l : List Nat) (i : Int) (c : outParam Nat) : Prop where h : 0 ≤ i ∧ l[i.toNat]? = some c ∧ l.length ≤ BIG
instance {l : List Nat} {i : Int} {c : Nat} [p : IxT l i c] : Sm2 .ix (.str (tx l)) (.int i) (.str (tx [c])) := ⟨s_ixS (by rw [tx_len]; exact p.h.2.2) p.h.1 (by rw [tx_toList]; exact p.h.2.1)⟩
class IxL {α : Type} (l : List α) (i : Int) (c : outParam α) : Prop where h : 0 ≤ i ∧ l[i.toNat]? = some c
instance (priority := 400) ix_lst {l : List D} {i : Int} {c : D} [p : IxL l i c] : Sm2 .ix (.lst l) (.int i) c := ⟨s_ixL p.h.1 p.h.2⟩
instance (priority := 400) ix_tup {l : List D} {i : Int} {c : D} [p : IxL l i c] : Sm2 .ix (.tup l) (.int i) c := ⟨s_ixT p.h.1 p.h.2⟩
instance ix_lstM {α : Type} {f : α → D} {l : List α} {i : Int} {c : α} [p : IxL l i c] : Sm2 .ix (.lst (l.map f)) (.int i) (f c) := ⟨s_ixL p.h.1 (by rw [List.getElem?_map, p.h.2]; rfl)⟩
instance ix_tupP {l : List Part} {i : Int} {c : Part} [p : IxL l i c] : Sm2 .ix (.tup (partsD l)) (.int i) (partD c) := ⟨s_ixT p.h.1 (by unfold partsD; rw [List.getElem?_map, p.h.2]; rfl)⟩
theorem run_wpE {cf : CF} {fd : FDef} {args : List D} {P : D × List D → Prop} (h : args.length = fd.ps.length) (w : Wp cf (args.map some ++ List.replicate (fd.N.length - fd.ps.length) none) fd.body (fun fl => ∃ x, outF fd.io fl = some x ∧ P x)) : ∃ x, runD cf fd args = some x ∧ P x := by
  obtain ⟨fl, h1, x, h2, h3⟩ := w
  exact ⟨x, by rw [runD_eq h, h1, Option.bind_some]; exact h2, h3⟩
/-! small numbers -/
instance : Pos 2 := ⟨by decide⟩
instance : Pos 3 := ⟨by decide⟩
instance : Pos 4 := ⟨by decide⟩
instance : Pos 5 := ⟨by decide⟩
instance : Pos 6 := ⟨by decide⟩
instance : Pos 7 := ⟨by decide⟩
instance : Pos 8 := ⟨by decide⟩
instance : Pos 9 := ⟨by decide⟩
instance : Pos 10 := ⟨by decide⟩
instance : Pos 12 := ⟨by decide⟩
instance : Pos 26 := ⟨by decide⟩
instance : Pos 40 := ⟨by decide⟩
instance : Pos 50 := ⟨by decide⟩
instance : Pos 100 := ⟨by decide⟩
instance : Pos 1000 := ⟨by decide⟩
instance : Pos 1000000000000 := ⟨by decide⟩
instance : Pos 1000000000000000000000000000000000000000000000000000000000000 := ⟨by decide⟩
instance : Pos 10000000000000000000000000000000000000000000000000000000000 := ⟨by decide⟩
instance {n : Nat} : Pos ((n : Int) + 1) := ⟨by omega⟩
instance : Dvs 2 := ⟨by decide, by decide⟩
instance : Dvs 3 := ⟨by decide, by decide⟩
instance : Dvs 4 := ⟨by decide, by decide⟩
instance : Dvs 5 := ⟨by decide, by decide⟩
instance : Dvs 6 := ⟨by decide, by decide⟩
instance : Dvs 7 := ⟨by decide, by decide⟩
instance : Dvs 8 := ⟨by decide, by decide⟩
instance : Dvs 10 := ⟨by decide, by decide⟩
instance : Dvs 12 := ⟨by decide, by decide⟩
instance : Dvs 16 := ⟨by decide, by decide⟩
instance : Dvs 20 := ⟨by decide, by decide⟩
instance : Dvs 30 := ⟨by decide, by decide⟩
instance : Dvs 40 := ⟨by decide, by decide⟩
instance : Dvs 50 := ⟨by decide, by decide⟩
instance : Dvs 60 := ⟨by decide, by decide⟩
instance : Dvs 72 := ⟨by decide, by decide⟩
instance : Dvs 80 := ⟨by decide, by decide⟩
instance : Dvs 97 := ⟨by decide, by decide⟩
instance : Dvs 100 := ⟨by decide, by decide⟩
instance : Dvs 300 := ⟨by decide, by decide⟩
instance : Dvs 400 := ⟨by decide, by decide⟩
instance : Dvs 1000 := ⟨by decide, by decide⟩
instance : Sm64 2 := ⟨by decide⟩
instance : Sm64 3 := ⟨by decide⟩
instance : Sm64 4 := ⟨by decide⟩
instance : Sm64 5 := ⟨by decide⟩
instance : Sm64 7 := ⟨by decide⟩
instance : Sm64 8 := ⟨by decide⟩
instance : Sm64 10 := ⟨by decide⟩
instance : Sm64 100 := ⟨by decide⟩
instance : Sm62 0 := ⟨by decide, by decide⟩
instance : Sm62 1 := ⟨by decide, by decide⟩
instance : Sm62 2 := ⟨by decide, by decide⟩
instance : Sm62 3 := ⟨by decide, by decide⟩
instance : Sm62 4 := ⟨by decide, by decide⟩
instance : Sm62 5 := ⟨by decide, by decide⟩
instance : Sm62 6 := ⟨by decide, by decide⟩
instance : Sm62 8 := ⟨by decide, by decide⟩
instance {i : Int} : Sm62 (i % 10) := ⟨by omega, by omega⟩
instance {i : Int} : Sm62 (i % 8) := ⟨by omega, by omega⟩
instance {i : Int} : Sm62 (i % 4) := ⟨by omega, by omega⟩
instance {i : Int} : Sm62 (i % 3) := ⟨by omega, by omega⟩
instance {i : Int} : Sm62 (i % 5) := ⟨by omega, by omega⟩
instance {i : Int} : Sm62 (i % 6) := ⟨by omega, by omega⟩
end PyI
end

section
set_option maxRecDepth 100000
set_option maxHeartbeats 4000000
namespace PyI
open PySem
/-- the times of a name -/
def gv : List Part → List Nat → Int
  | [], _ => 0
  | q :: r, n => if q.1 = n then q.2 else gv r n
theorem gv_nil {n : List Nat} : gv [] n = 0 := rfl
theorem gv_cons {q : Part} {r : List Part} {n : List Nat} : gv (q :: r) n = if q.1 = n then q.2 else gv r n := rfl
def nms (T : List Part) : List (List Nat) := T.map (·.1)
theorem gv_none : ∀ {T : List Part} {n : List Nat}, n ∉ nms T → gv T n = 0
  | [], _, _ => rfl
  | q :: r, n, h => by
    unfold nms at h
    rw [List.map_cons, List.mem_cons, not_or] at h
    rw [gv, if_neg fun e => h.1 e.symm, gv_none h.2]
theorem gv_mem : ∀ {T : List Part} {q : Part}, (nms T).Nodup → q ∈ T → gv T q.1 = q.2
  | x :: r, q, hn, hq => by
    unfold nms at hn
    rw [List.map_cons, List.nodup_cons] at hn
    rw [gv]
    rcases List.mem_cons.mp hq with rfl | hq
    · rw [if_pos rfl]
    · rw [if_neg fun e => hn.1 (by rw [e]; exact List.mem_map_of_mem hq), gv_mem hn.2 hq]
theorem gv_cases {T : List Part} (hn : (nms T).Nodup) (n : List Nat) : (∃ q ∈ T, q.1 = n ∧ gv T n = q.2) ∨ (n ∉ nms T ∧ gv T n = 0) := by
  by_cases h : n ∈ nms T
  · left
    obtain ⟨q, hq, rfl⟩ := List.mem_map.mp h
    exact ⟨q, hq, rfl, gv_mem hn hq⟩
  · exact .inr ⟨h, gv_none h⟩
theorem gv_put (T : List Part) (n : List Nat) (v : Int) (m : List Nat) : gv (putT T n v) m = if m = n then v else gv T m := by
  unfold putT
  split
  · rename_i h
    have key : ∀ T : List Part, (T.any fun q => decide (q.1 = n)) = true → gv (T.map fun q => if q.1 = n then (q.1, v) else q) m = if m = n then v else gv T m := by
      intro T
      induction T with
      | nil => intro h; cases h
      | cons q r ih =>
        intro h
        rw [List.map_cons, gv]
        by_cases e : q.1 = n
        · rw [if_pos e]
          simp only []
          by_cases e2 : m = n
          · rw [if_pos (by rw [e, e2]), if_pos e2]
          · rw [if_neg fun z => e2 (by rw [← z, e]), if_neg e2, gv, if_neg fun z => e2 (by rw [← z, e])]
            have key2 : ∀ r : List Part, gv (r.map fun q => if q.1 = n then (q.1, v) else q) m = gv r m := by
              intro r
              induction r with
              | nil => rfl
              | cons y r ih =>
                rw [List.map_cons, gv, gv, ih]
                by_cases e3 : y.1 = n
                · rw [if_pos e3]; simp only []; rw [if_neg fun z => e2 (by rw [← z, e3]), if_neg fun z => e2 (by rw [← z, e3])]
                · rw [if_neg e3]
            exact key2 r
        · rw [if_neg e]
          rw [List.any_cons, decide_eq_false e, Bool.false_or] at h
          rw [ih h, gv]
          by_cases e2 : q.1 = m
          · rw [if_pos e2, if_neg fun z => e (by rw [e2, z]), if_pos e2]
          · rw [if_neg e2, if_neg e2]
    exact key T h
  · rename_i h
    have key : ∀ T : List Part, ¬ (T.any fun q => decide (q.1 = n)) = true → gv (T ++ [(n, v)]) m = if m = n then v else gv T m := by
      intro T
      induction T with
      | nil =>
        intro _
        rw [List.nil_append, gv_cons, gv_nil]
        by_cases e : m = n
        · rw [if_pos e, if_pos e.symm]
        · rw [if_neg e, if_neg fun z => e z.symm]
      | cons q r ih =>
        intro h
        rw [List.any_cons, Bool.or_eq_true, not_or, decide_eq_true_eq] at h
        rw [List.cons_append, gv, gv, ih h.2]
        by_cases e2 : q.1 = m
        · rw [if_pos e2, if_pos e2, if_neg fun z => h.1 (by rw [e2, z])]
        · rw [if_neg e2, if_neg e2]
    exact key T h
theorem putT_new {T : List Part} {n : List Nat} {v : Int} (h : n ∉ nms T) : putT T n v = T ++ [(n, v)] := by
  unfold putT
  rw [if_neg]
  intro q
  obtain ⟨x, h1, h2⟩ := List.any_eq_true.mp q
  exact h (by rw [← of_decide_eq_true h2]; exact List.mem_map_of_mem h1)
theorem putT_pos {T : List Part} {n : List Nat} {v : Int} (h : ∀ q ∈ T, 0 < q.2) (hv : 0 < v) : ∀ q ∈ putT T n v, 0 < q.2 := by
  intro q hq
  unfold putT at hq
  split at hq
  · obtain ⟨x, h1, h2⟩ := List.mem_map.mp hq
    split at h2
    · rw [← h2]; exact hv
    · rw [← h2]; exact h x h1
  · rcases List.mem_append.mp hq with hq | hq
    · exact h q hq
    · rw [List.mem_singleton.mp hq]; exact hv
theorem gv_nn {T : List Part} (h : ∀ q ∈ T, 0 < q.2) (n : List Nat) : 0 ≤ gv T n := by
  induction T with
  | nil => exact Int.le_refl _
  | cons q r ih =>
    rw [gv]
    split
    · have := h q List.mem_cons_self; omega
    · exact ih fun q hq => h q (List.mem_cons_of_mem _ hq)
/-! canonical lists -/
theorem rising_lt : ∀ {L : List Part}, rising L = true → L.Pairwise fun a b => a.1 < b.1
  | [], _ => .nil
  | [x], _ => List.pairwise_singleton _ _
  | x :: y :: r, h => by
    rw [rising, Bool.and_eq_true, decide_eq_true_eq] at h
    have ih := rising_lt h.2
    refine List.Pairwise.cons (fun z hz => ?_) ih
    rcases List.mem_cons.mp hz with rfl | hz
    · exact h.1
    · exact List.lt_trans h.1 (List.rel_of_pairwise_cons ih hz)
structure Can (L : List Part) : Prop where
  r : L.Pairwise fun a b => a.1 < b.1
  p : ∀ q ∈ L, 0 < q.2
theorem Can.nd {L : List Part} (h : Can L) : (nms L).Nodup := by
  unfold nms
  rw [List.nodup_iff_pairwise_ne, List.pairwise_map]
  exact h.r.imp fun {a b} z e => by rw [e] at z; exact List.lt_irrefl _ z
theorem Can.tail {x : Part} {L : List Part} (h : Can (x :: L)) : Can L := ⟨(List.pairwise_cons.mp h.r).2, fun q hq => h.p q (List.mem_cons_of_mem _ hq)⟩
theorem Can.nil : Can [] := ⟨.nil, by simp⟩
theorem Can.gv_low {x : Part} {L : List Part} (h : Can (x :: L)) {n : List Nat} (hn : n < x.1 ∨ n = x.1) : gv L n = 0 := by
  refine gv_none fun hm => ?_
  obtain ⟨q, hq, rfl⟩ := List.mem_map.mp hm
  have h1 := List.rel_of_pairwise_cons h.r hq
  rcases hn with hn | hn
  · exact List.lt_irrefl _ (List.lt_trans h1 hn)
  · rw [hn] at h1; exact List.lt_irrefl _ h1
theorem can_ext : ∀ {L M : List Part}, Can L → Can M → (∀ n, gv L n = gv M n) → L = M
  | [], [], _, _, _ => rfl
  | x :: L, [], hl, _, h => by
    have := h x.1
    rw [gv_cons, if_pos rfl, gv_nil] at this
    have := hl.p x List.mem_cons_self
    omega
  | [], y :: M, _, hm, h => by
    have := h y.1
    rw [gv_nil, gv_cons, if_pos rfl] at this
    have := hm.p y List.mem_cons_self
    omega
  | x :: L, y :: M, hl, hm, h => by
    have hx := h x.1
    have hy := h y.1
    rw [gv_cons, gv_cons, if_pos rfl] at hx
    rw [gv_cons, gv_cons, if_pos rfl] at hy
    have px := hl.p x List.mem_cons_self
    have py := hm.p y List.mem_cons_self
    have e : x.1 = y.1 := by
      by_cases c : x.1 < y.1
      · rw [if_neg fun z => List.lt_irrefl x.1 (by rw [z] at c; exact absurd c (List.lt_irrefl _)), hm.gv_low (.inl c)] at hx
        omega
      · by_cases d : y.1 < x.1
        · rw [if_neg fun z => List.lt_irrefl x.1 (by rw [z] at d; exact absurd d (List.lt_irrefl _)), hl.gv_low (.inl d)] at hy
          omega
        · exact List.le_antisymm (List.not_lt.mp d) (List.not_lt.mp c)
    rw [if_pos e.symm] at hx
    have exy : x = y := Prod.ext e hx
    subst exy
    congr 1
    refine can_ext hl.tail hm.tail fun n => ?_
    have hn := h n
    rw [gv_cons, gv_cons] at hn
    by_cases c : x.1 = n
    · rw [hl.gv_low (.inr c.symm), hm.gv_low (.inr c.symm)]
    · rw [if_neg c, if_neg c] at hn; exact hn
theorem made_mem {T : List Part} {q : Part} : q ∈ madeL T ↔ q ∈ T ∧ 0 < q.2 := by
  unfold madeL
  rw [List.mem_mergeSort, List.mem_filter, decide_eq_true_eq]
theorem made_len (T : List Part) : (madeL T).length ≤ T.length := by
  unfold madeL
  rw [List.length_mergeSort]
  exact List.length_filter_le _ _
theorem made_can {T : List Part} (h : (nms T).Nodup) : Can (madeL T) :=
  ⟨rising_lt (rising_sort _ ((List.filter_sublist.map _).nodup h)), fun q hq => (made_mem.mp hq).2⟩
theorem made_gv {T : List Part} (h : (nms T).Nodup) (n : List Nat) : gv (madeL T) n = if 0 < gv T n then gv T n else 0 := by
  have c := made_can h
  rcases gv_cases h n with ⟨q, hq, rfl, e⟩ | ⟨hn, e⟩
  · rw [e]
    split
    · rename_i z
      exact gv_mem c.nd (made_mem.mpr ⟨hq, z⟩)
    · rename_i z
      refine gv_none fun hm => ?_
      obtain ⟨q', h1, h2⟩ := List.mem_map.mp hm
      have h3 := made_mem.mp h1
      have h4 := gv_mem h h3.1
      rw [h2, e] at h4
      omega
  · rw [e, if_neg (by decide)]
    refine gv_none fun hm => ?_
    obtain ⟨q', h1, h2⟩ := List.mem_map.mp hm
    exact hn (by rw [← h2]; exact List.mem_map_of_mem (made_mem.mp h1).1)
theorem made_gvp {T : List Part} (h : (nms T).Nodup) (hp : ∀ q ∈ T, 0 < q.2) (n : List Nat) : gv (madeL T) n = gv T n := by
  rw [made_gv h]
  have := gv_nn hp n
  split <;> omega
theorem made_id {L : List Part} (h : Can L) : madeL L = L := can_ext (made_can h.nd) h fun n => made_gvp h.nd h.p n
/-! adding up -/
def addT (T L : List Part) : List Part := L.foldl (fun T q => putT T q.1 (gv T q.1 + q.2)) T
theorem addT_snoc (T L : List Part) (q : Part) : addT T (L ++ [q]) = putT (addT T L) q.1 (gv (addT T L) q.1 + q.2) := by unfold addT; rw [List.foldl_append]; rfl
theorem addT_nd {T : List Part} (h : (nms T).Nodup) : ∀ L : List Part, (nms (addT T L)).Nodup := by
  intro L
  induction L generalizing T with
  | nil => exact h
  | cons q r ih => exact ih (putT_names h)
theorem addT_len (T L : List Part) : (addT T L).length ≤ T.length + L.length := by
  induction L generalizing T with
  | nil => exact Nat.le_refl _
  | cons q r ih =>
    have h1 := ih (putT T q.1 (gv T q.1 + q.2))
    have h2 := putT_len T q.1 (gv T q.1 + q.2)
    have : addT T (q :: r) = addT (putT T q.1 (gv T q.1 + q.2)) r := rfl
    rw [this, List.length_cons]; omega
theorem addT_pos {T L : List Part} (h : ∀ q ∈ T, 0 < q.2) (h' : ∀ q ∈ L, 0 < q.2) : ∀ q ∈ addT T L, 0 < q.2 := by
  induction L generalizing T with
  | nil => exact h
  | cons q r ih =>
    have := gv_nn h q.1
    have := h' q List.mem_cons_self
    exact ih (putT_pos h (by omega)) fun x hx => h' x (List.mem_cons_of_mem _ hx)
theorem addT_gv {L : List Part} (hn : (nms L).Nodup) : ∀ (T : List Part) (n : List Nat), gv (addT T L) n = gv T n + gv L n := by
  induction L with
  | nil => intro T n; show gv T n = gv T n + 0; omega
  | cons q r ih =>
    intro T n
    unfold nms at hn
    rw [List.map_cons, List.nodup_cons] at hn
    have : addT T (q :: r) = addT (putT T q.1 (gv T q.1 + q.2)) r := rfl
    rw [this, ih hn.2, gv_put, gv]
    by_cases e : q.1 = n
    · rw [if_pos e.symm, if_pos e]
      have : gv r n = 0 := gv_none (by rw [← e]; exact hn.1)
      rw [this, e]; omega
    · rw [if_neg fun z => e z.symm, if_neg e]
def sumL (A B : List Part) : List Part := madeL (addT A B)
theorem sumL_can {A B : List Part} (a : Can A) : Can (sumL A B) := made_can (addT_nd a.nd B)
theorem sumL_gv {A B : List Part} (a : Can A) (b : Can B) (n : List Nat) : gv (sumL A B) n = gv A n + gv B n := by
  unfold sumL
  rw [made_gvp (addT_nd a.nd B) (addT_pos a.p b.p), addT_gv b.nd]
theorem sumL_comm {A B : List Part} (a : Can A) (b : Can B) : sumL A B = sumL B A :=
  can_ext (sumL_can a) (sumL_can b) fun n => by rw [sumL_gv a b, sumL_gv b a]; omega
theorem sumL_len (A B : List Part) : (sumL A B).length ≤ A.length + B.length := Nat.le_trans (made_len _) (addT_len A B)
/-! dicts of parts -/
class NdP (T : List Part) : Prop where h : (nms T).Nodup
class AllP (T : List Part) : Prop where h : ∀ q ∈ T, 0 < q.2
theorem pairsK_parts : ∀ L : List Part, pairsK (partsD L) = some (L.map keyQ)
  | [] => rfl
  | q :: r => by
    have ih := pairsK_parts r
    show (match keyOf (.str (tx q.1)), pairsK (partsD r) with
      | some k, some r => some ((k, D.int q.2) :: r)
      | _, _ => none) = _
    rw [ih]; rfl
theorem mergeD_snoc : ∀ (L T : List Part), (nms (T ++ L)).Nodup → mergeD (T.map keyQ) (L.map keyQ) = (T ++ L).map keyQ
  | [], T, _ => by rw [List.append_nil]; rfl
  | q :: r, T, h => by
    rw [List.map_cons]
    show mergeD (dput (T.map keyQ) (.inr (tx q.1)) (.int q.2)) (r.map keyQ) = _
    have hq : q.1 ∉ nms T := by
      unfold nms at h ⊢
      rw [List.map_append, List.nodup_append] at h
      intro hm
      exact h.2.2 _ hm q.1 (by simp) rfl
    rw [dput_dic, putT_new hq, mergeD_snoc r _ (by simpa using h)]
    simp
instance dict_parts {L : List Part} [p : NdP L] : Sm1 .dict_ (.tup (partsD L)) (dicD L) := ⟨by
  show (pairsK (partsD L)).map (fun kvs => D.dic (mergeD [] kvs)) = _
  rw [pairsK_parts, Option.map_some]
  have := mergeD_snoc L [] (by rw [List.nil_append]; exact p.h)
  rw [List.nil_append, List.map_nil] at this
  rw [this]; rfl⟩
instance dict_dic {T : List Part} : Sm1 .dict_ (dicD T) (dicD T) := ⟨rfl⟩
theorem sortD_dic (T : List Part) : sem1 .sitems (dicD T) = some (.lst (partsD (T.mergeSort partLe))) := by
  show (sortD ((T.map keyQ).map fun kv => D.tup [ofKey kv.1, kv.2])).map D.lst = _
  have : ((T.map keyQ).map fun kv => D.tup [ofKey kv.1, kv.2]) = partsD T := by unfold partsD; rw [List.map_map]; rfl
  rw [this, sortD_parts]; rfl
instance sit_made {T : List Part} [p : AllP T] : Sm1 .sitems (dicD T) (.lst (partsD (madeL T))) := ⟨by
  rw [sortD_dic]
  unfold madeL
  rw [List.filter_eq_self.mpr fun q hq => decide_eq_true (p.h q hq)]⟩
instance {T : List Part} : Itr .keys [dicD T] (T.map fun q => D.str (tx q.1)) := ⟨by
  show some ((T.map keyQ).map fun kv => ofKey kv.1) = _
  rw [List.map_map]; rfl⟩
instance {T : List Part} : Itr .vals [dicD T] (T.map fun q => D.int q.2) := ⟨by
  show some ((T.map keyQ).map fun kv => kv.2) = _
  rw [List.map_map]; rfl⟩
theorem dget_gv (T : List Part) (n : List Nat) : dget (T.map keyQ) (.inr (tx n)) = if n ∈ nms T then some (.int (gv T n)) else none := by
  induction T with
  | nil => rfl
  | cons q r ih =>
    unfold dget at ih ⊢
    rw [List.map_cons, List.find?_cons, key_eq]
    by_cases e : q.1 = n
    · rw [decide_eq_true e, gv, if_pos e, if_pos (by unfold nms; rw [List.map_cons, e]; exact List.mem_cons_self)]; rfl
    · rw [decide_eq_false e, gv, if_neg e]
      simp only []
      rw [ih]
      have : n ∈ nms (q :: r) ↔ n ∈ nms r := by
        unfold nms
        rw [List.map_cons, List.mem_cons]
        exact ⟨fun h => h.resolve_left fun z => e z.symm, .inr⟩
      by_cases m : n ∈ nms r
      · rw [if_pos m, if_pos (this.mpr m)]
      · rw [if_neg m, if_neg fun z => m (this.mp z)]
theorem dget_getD (T : List Part) (n : List Nat) : (dget (T.map keyQ) (.inr (tx n))).getD (.int 0) = .int (gv T n) := by
  rw [dget_gv]
  split
  · rfl
  · rename_i h; rw [gv_none h]; rfl
instance ev_get2 {cf : CF} {env : Env} {d k x : E} {T : List Part} {n : List Nat} [p : Ev cf env d (dicD T)] [q : Ev cf env k (.str (tx n))] [r : Ev cf env x (.int 0)] : Ev cf env (.get2 d k x) (.int (gv T n)) := ⟨by
  rw [evalE, p.h]
  unfold dicD
  simp only []
  rw [q.h, r.h]
  show some ((dget (T.map keyQ) (.inr (tx n))).getD (.int 0)) = _
  rw [dget_getD]⟩
instance ev_dctP {cf : CF} {env : Env} {k v : E} {n : List Nat} {i : Int} [q : Ev cf env k (.str (tx n))] [r : Ev cf env v (.int i)] : Ev cf env (.dct [k] [v]) (dicD [(n, i)]) := ⟨by
  rw [evalE, es_cons, es_cons, q.h, r.h]; rfl⟩
class InN (n : List Nat) (T : List Part) : Prop where h : n ∈ nms T
instance ix_dic {T : List Part} {n : List Nat} [p : InN n T] : Sm2 .ix (dicD T) (.str (tx n)) (.int (gv T n)) := ⟨by
  show dget (T.map keyQ) (.inr (tx n)) = _
  rw [dget_gv, if_pos p.h]⟩
instance in_dic {T : List Part} {n : List Nat} {b : Bool} [p : Dec (n ∈ nms T) b] : Sm2 .isin (.str (tx n)) (dicD T) (.bl b) := ⟨by
  show some (D.bl (dget (T.map keyQ) (.inr (tx n))).isSome) = _
  rw [dget_gv]
  have h := p.h
  split
  · rename_i z; rw [h.mpr z]; rfl
  · rename_i z
    cases b with
    | false => rfl
    | true => exact absurd (h.mp rfl) z⟩
instance len_dic {T : List Part} : Sm1 .len (dicD T) (.int (T.length : Nat)) := ⟨by show some _ = _; rw [List.length_map]⟩
instance ofT_dic {T : List Part} : OfT .dict (dicD T) true := ⟨rfl⟩
instance isn_dic {T : List Part} : IsN (dicD T) false := ⟨rfl⟩
instance isn_len {n : Int} {L : List Part} : IsN (lenD n L) false := ⟨rfl⟩
section
variable {cf : CF} {env env' : Env} {r : List S} {Q : Fl → Prop}
theorem wp_setP {i : Nat} {k v : E} {T : List Part} {n : List Nat} {x : Int} [l : Look env i (dicD T)] [p : Ev cf env v (.int x)] [p' : Ev cf env k (.str (tx n))] (hl : T.length < BIG) [q : SetE env i (dicD (putT T n x)) env'] (w : Wp cf env' r Q) : Wp cf env (.setix i k v :: r) Q :=
  wp_step (fl := .nxt env') (by
    have hl' : (T.map keyQ).length < BIG := by rw [List.length_map]; exact hl
    rw [x_setD (show look env i = some (.dic (T.map keyQ)) from l.h) p.h p'.h rfl hl', dput_dic]
    exact congrArg (fun z => some (Fl.nxt z)) q.h) w
end
end PyI
end

section
set_option maxRecDepth 100000
set_option maxHeartbeats 4000000
namespace PyI
open PySem
def f_of_number : FDef := { name := "of_number", ps := ["n"], N := ["n"], dfl := [], cls := [.F], io := [], fresh := false, body := [
  .ret (.tup [(.var 0), (.tup [])])] }
theorem go_of_number {cf : CF} {a0 : D} {x : D × List D} (w : Wp cf [some a0] [
  .ret (.tup [(.var 0), (.tup [])])] (Ends [] x)) : runD cf (f_of_number) [a0] = some x := run_wp rfl w
theorem ge_of_number {cf : CF} {a0 : D} {P : D × List D → Prop} (w : Wp cf [some a0] [
  .ret (.tup [(.var 0), (.tup [])])] (fun fl => ∃ x, outF [] fl = some x ∧ P x)) : ∃ x, runD cf (f_of_number) [a0] = some x ∧ P x := run_wpE rfl w
def f_of_name (i_often : Nat) : FDef := { name := "of_name", ps := ["name", "times"], N := ["name", "times"], dfl := [.int 1], cls := [.F, .F], io := [], fresh := false, body := [
  .ret (.call i_often [(.tup [(.lit (.int 0)), (.tup [(.tup [(.var 0), (.lit (.int 1))])])]), (.var 1)])] }
theorem go_of_name {cf : CF} {a0 a1 : D} {x : D × List D} (i_often : Nat) (w : Wp cf [some a0, some a1] [
  .ret (.call i_often [(.tup [(.lit (.int 0)), (.tup [(.tup [(.var 0), (.lit (.int 1))])])]), (.var 1)])] (Ends [] x)) : runD cf (f_of_name i_often) [a0, a1] = some x := run_wp rfl w
theorem ge_of_name {cf : CF} {a0 a1 : D} {P : D × List D → Prop} (i_often : Nat) (w : Wp cf [some a0, some a1] [
  .ret (.call i_often [(.tup [(.lit (.int 0)), (.tup [(.tup [(.var 0), (.lit (.int 1))])])]), (.var 1)])] (fun fl => ∃ x, outF [] fl = some x ∧ P x)) : ∃ x, runD cf (f_of_name i_often) [a0, a1] = some x ∧ P x := run_wpE rfl w
def f_added : FDef := { name := "added", ps := ["a", "b"], N := ["a", "b", "found", "name", "times"], dfl := [], cls := [.F, .F], io := [], fresh := false, body := [
  .asg 2 true (.op1 .dict_ (.op2 .ix (.var 0) (.lit (.int 1)))),
  .for_ (.tup [3, 4]) .of [(.op2 .ix (.var 1) (.lit (.int 1)))] [.setix 2 (.var 3) (.op2 .add (.get2 (.var 2) (.var 3) (.lit (.int 0))) (.var 4))],
  .ret (.tup [(.op2 .add (.op2 .ix (.var 0) (.lit (.int 0))) (.op2 .ix (.var 1) (.lit (.int 0)))), (.op1 .tuple_ (.op1 .sitems (.var 2)))])] }
theorem go_added {cf : CF} {a0 a1 : D} {x : D × List D} (w : Wp cf [some a0, some a1, none, none, none] [
  .asg 2 true (.op1 .dict_ (.op2 .ix (.var 0) (.lit (.int 1)))),
  .for_ (.tup [3, 4]) .of [(.op2 .ix (.var 1) (.lit (.int 1)))] [.setix 2 (.var 3) (.op2 .add (.get2 (.var 2) (.var 3) (.lit (.int 0))) (.var 4))],
  .ret (.tup [(.op2 .add (.op2 .ix (.var 0) (.lit (.int 0))) (.op2 .ix (.var 1) (.lit (.int 0)))), (.op1 .tuple_ (.op1 .sitems (.var 2)))])] (Ends [] x)) : runD cf (f_added) [a0, a1] = some x := run_wp rfl w
theorem ge_added {cf : CF} {a0 a1 : D} {P : D × List D → Prop} (w : Wp cf [some a0, some a1, none, none, none] [
  .asg 2 true (.op1 .dict_ (.op2 .ix (.var 0) (.lit (.int 1)))),
  .for_ (.tup [3, 4]) .of [(.op2 .ix (.var 1) (.lit (.int 1)))] [.setix 2 (.var 3) (.op2 .add (.get2 (.var 2) (.var 3) (.lit (.int 0))) (.var 4))],
  .ret (.tup [(.op2 .add (.op2 .ix (.var 0) (.lit (.int 0))) (.op2 .ix (.var 1) (.lit (.int 0)))), (.op1 .tuple_ (.op1 .sitems (.var 2)))])] (fun fl => ∃ x, outF [] fl = some x ∧ P x)) : ∃ x, runD cf (f_added) [a0, a1] = some x ∧ P x := run_wpE rfl w
abbrev c_often_1 : E := (.comp (.tup [(.var 2), (.op2 .mul (.var 3) (.var 1))]) (.tup [2, 3]) .of [(.op2 .ix (.var 0) (.lit (.int 1)))] [])
def f_often : FDef := { name := "often", ps := ["a", "n"], N := ["a", "n", "name", "times"], dfl := [], cls := [.F, .F], io := [], fresh := false, body := [
  .iff (.op2 .eq (.var 1) (.lit (.int 0))) [.ret (.tup [(.lit (.int 0)), (.tup [])])] [],
  .ret (.tup [(.op2 .mul (.op2 .ix (.var 0) (.lit (.int 0))) (.var 1)), (.op1 .tuple_ c_often_1)])] }
theorem go_often {cf : CF} {a0 a1 : D} {x : D × List D} (w : Wp cf [some a0, some a1, none, none] [
  .iff (.op2 .eq (.var 1) (.lit (.int 0))) [.ret (.tup [(.lit (.int 0)), (.tup [])])] [],
  .ret (.tup [(.op2 .mul (.op2 .ix (.var 0) (.lit (.int 0))) (.var 1)), (.op1 .tuple_ c_often_1)])] (Ends [] x)) : runD cf (f_often) [a0, a1] = some x := run_wp rfl w
theorem ge_often {cf : CF} {a0 a1 : D} {P : D × List D → Prop} (w : Wp cf [some a0, some a1, none, none] [
  .iff (.op2 .eq (.var 1) (.lit (.int 0))) [.ret (.tup [(.lit (.int 0)), (.tup [])])] [],
  .ret (.tup [(.op2 .mul (.op2 .ix (.var 0) (.lit (.int 0))) (.var 1)), (.op1 .tuple_ c_often_1)])] (fun fl => ∃ x, outF [] fl = some x ∧ P x)) : ∃ x, runD cf (f_often) [a0, a1] = some x ∧ P x := run_wpE rfl w
def f_l_other (i_l_mixed : Nat) (i_l_drawn : Nat) (i_l_made : Nat) : FDef := { name := "_law_other", ps := ["_law_a", "_law_cells", "_law_names_here"], N := ["_law_a", "_law_cells", "_law_names_here", "_law_mixed_here", "_law_times", "_law_way", "_law_name"], dfl := [], cls := [.F, .F, .F], io := [], fresh := false, body := [
  .asg 3 false (.call i_l_mixed [(.op1 .sum_ (.var 1)), (.lit (.int 70))]),
  .asg 4 true (.op1 .dict_ (.op2 .ix (.var 0) (.lit (.int 1)))),
  .asg 5 false (.op2 .mod (.var 3) (.lit (.int 6))),
  .iff (.op2 .eq (.var 5) (.lit (.int 0))) [.ret (.call i_l_drawn [(.var 1), (.var 2)])] [],
  .iff (.op2 .eq (.var 5) (.lit (.int 1))) [.ret (.tup [(.op2 .ix (.var 0) (.lit (.int 0))), (.op2 .ix (.var 0) (.lit (.int 1)))])] [],
  .iff (.op2 .eq (.var 5) (.lit (.int 2))) [.frz 4, .ret (.call i_l_made [(.op2 .add (.op2 .ix (.var 0) (.lit (.int 0))) (.op2 .mod (.op2 .fdiv (.var 3) (.lit (.int 6))) (.lit (.int 3)))), (.var 4)])] [],
  .iff (.op2 .eq (.var 5) (.lit (.int 3))) [.frz 4, .ret (.call i_l_made [(.op2 .fdiv (.op2 .ix (.var 0) (.lit (.int 0))) (.op2 .add (.lit (.int 1)) (.op2 .mod (.op2 .fdiv (.var 3) (.lit (.int 6))) (.lit (.int 3))))), (.var 4)])] [],
  .asg 6 false (.op2 .ix (.var 2) (.op2 .mod (.op2 .fdiv (.var 3) (.lit (.int 6))) (.lit (.int 5)))),
  .iff (.op2 .eq (.var 5) (.lit (.int 4))) [.setix 4 (.var 6) (.op2 .add (.get2 (.var 4) (.var 6) (.lit (.int 0))) (.op2 .mod (.op2 .fdiv (.var 3) (.lit (.int 30))) (.lit (.int 3))))] [],
  .iff (.op2 .eq (.var 5) (.lit (.int 5))) [.setix 4 (.var 6) (.op2 .max2 (.lit (.int 0)) (.op2 .sub (.op2 .sub (.get2 (.var 4) (.var 6) (.lit (.int 0))) (.lit (.int 1))) (.op2 .mod (.op2 .fdiv (.var 3) (.lit (.int 30))) (.lit (.int 3)))))] [],
  .frz 4,
  .ret (.call i_l_made [(.op2 .ix (.lst [(.op2 .ix (.var 0) (.lit (.int 0))), (.op2 .add (.op2 .ix (.var 0) (.lit (.int 0))) (.op2 .mod (.op2 .fdiv (.var 3) (.lit (.int 90))) (.lit (.int 30)))), (.op2 .fdiv (.op2 .ix (.var 0) (.lit (.int 0))) (.lit (.int 2)))]) (.op2 .mod (.op2 .fdiv (.var 3) (.lit (.int 2700))) (.lit (.int 3)))), (.var 4)])] }
theorem go_l_other {cf : CF} {a0 a1 a2 : D} {x : D × List D} (i_l_mixed : Nat) (i_l_drawn : Nat) (i_l_made : Nat) (w : Wp cf [some a0, some a1, some a2, none, none, none, none] [
  .asg 3 false (.call i_l_mixed [(.op1 .sum_ (.var 1)), (.lit (.int 70))]),
  .asg 4 true (.op1 .dict_ (.op2 .ix (.var 0) (.lit (.int 1)))),
  .asg 5 false (.op2 .mod (.var 3) (.lit (.int 6))),
  .iff (.op2 .eq (.var 5) (.lit (.int 0))) [.ret (.call i_l_drawn [(.var 1), (.var 2)])] [],
  .iff (.op2 .eq (.var 5) (.lit (.int 1))) [.ret (.tup [(.op2 .ix (.var 0) (.lit (.int 0))), (.op2 .ix (.var 0) (.lit (.int 1)))])] [],
  .iff (.op2 .eq (.var 5) (.lit (.int 2))) [.frz 4, .ret (.call i_l_made [(.op2 .add (.op2 .ix (.var 0) (.lit (.int 0))) (.op2 .mod (.op2 .fdiv (.var 3) (.lit (.int 6))) (.lit (.int 3)))), (.var 4)])] [],
  .iff (.op2 .eq (.var 5) (.lit (.int 3))) [.frz 4, .ret (.call i_l_made [(.op2 .fdiv (.op2 .ix (.var 0) (.lit (.int 0))) (.op2 .add (.lit (.int 1)) (.op2 .mod (.op2 .fdiv (.var 3) (.lit (.int 6))) (.lit (.int 3))))), (.var 4)])] [],
  .asg 6 false (.op2 .ix (.var 2) (.op2 .mod (.op2 .fdiv (.var 3) (.lit (.int 6))) (.lit (.int 5)))),
  .iff (.op2 .eq (.var 5) (.lit (.int 4))) [.setix 4 (.var 6) (.op2 .add (.get2 (.var 4) (.var 6) (.lit (.int 0))) (.op2 .mod (.op2 .fdiv (.var 3) (.lit (.int 30))) (.lit (.int 3))))] [],
  .iff (.op2 .eq (.var 5) (.lit (.int 5))) [.setix 4 (.var 6) (.op2 .max2 (.lit (.int 0)) (.op2 .sub (.op2 .sub (.get2 (.var 4) (.var 6) (.lit (.int 0))) (.lit (.int 1))) (.op2 .mod (.op2 .fdiv (.var 3) (.lit (.int 30))) (.lit (.int 3)))))] [],
  .frz 4,
  .ret (.call i_l_made [(.op2 .ix (.lst [(.op2 .ix (.var 0) (.lit (.int 0))), (.op2 .add (.op2 .ix (.var 0) (.lit (.int 0))) (.op2 .mod (.op2 .fdiv (.var 3) (.lit (.int 90))) (.lit (.int 30)))), (.op2 .fdiv (.op2 .ix (.var 0) (.lit (.int 0))) (.lit (.int 2)))]) (.op2 .mod (.op2 .fdiv (.var 3) (.lit (.int 2700))) (.lit (.int 3)))), (.var 4)])] (Ends [] x)) : runD cf (f_l_other i_l_mixed i_l_drawn i_l_made) [a0, a1, a2] = some x := run_wp rfl w
theorem ge_l_other {cf : CF} {a0 a1 a2 : D} {P : D × List D → Prop} (i_l_mixed : Nat) (i_l_drawn : Nat) (i_l_made : Nat) (w : Wp cf [some a0, some a1, some a2, none, none, none, none] [
  .asg 3 false (.call i_l_mixed [(.op1 .sum_ (.var 1)), (.lit (.int 70))]),
  .asg 4 true (.op1 .dict_ (.op2 .ix (.var 0) (.lit (.int 1)))),
  .asg 5 false (.op2 .mod (.var 3) (.lit (.int 6))),
  .iff (.op2 .eq (.var 5) (.lit (.int 0))) [.ret (.call i_l_drawn [(.var 1), (.var 2)])] [],
  .iff (.op2 .eq (.var 5) (.lit (.int 1))) [.ret (.tup [(.op2 .ix (.var 0) (.lit (.int 0))), (.op2 .ix (.var 0) (.lit (.int 1)))])] [],
  .iff (.op2 .eq (.var 5) (.lit (.int 2))) [.frz 4, .ret (.call i_l_made [(.op2 .add (.op2 .ix (.var 0) (.lit (.int 0))) (.op2 .mod (.op2 .fdiv (.var 3) (.lit (.int 6))) (.lit (.int 3)))), (.var 4)])] [],
  .iff (.op2 .eq (.var 5) (.lit (.int 3))) [.frz 4, .ret (.call i_l_made [(.op2 .fdiv (.op2 .ix (.var 0) (.lit (.int 0))) (.op2 .add (.lit (.int 1)) (.op2 .mod (.op2 .fdiv (.var 3) (.lit (.int 6))) (.lit (.int 3))))), (.var 4)])] [],
  .asg 6 false (.op2 .ix (.var 2) (.op2 .mod (.op2 .fdiv (.var 3) (.lit (.int 6))) (.lit (.int 5)))),
  .iff (.op2 .eq (.var 5) (.lit (.int 4))) [.setix 4 (.var 6) (.op2 .add (.get2 (.var 4) (.var 6) (.lit (.int 0))) (.op2 .mod (.op2 .fdiv (.var 3) (.lit (.int 30))) (.lit (.int 3))))] [],
  .iff (.op2 .eq (.var 5) (.lit (.int 5))) [.setix 4 (.var 6) (.op2 .max2 (.lit (.int 0)) (.op2 .sub (.op2 .sub (.get2 (.var 4) (.var 6) (.lit (.int 0))) (.lit (.int 1))) (.op2 .mod (.op2 .fdiv (.var 3) (.lit (.int 30))) (.lit (.int 3)))))] [],
  .frz 4,
  .ret (.call i_l_made [(.op2 .ix (.lst [(.op2 .ix (.var 0) (.lit (.int 0))), (.op2 .add (.op2 .ix (.var 0) (.lit (.int 0))) (.op2 .mod (.op2 .fdiv (.var 3) (.lit (.int 90))) (.lit (.int 30)))), (.op2 .fdiv (.op2 .ix (.var 0) (.lit (.int 0))) (.lit (.int 2)))]) (.op2 .mod (.op2 .fdiv (.var 3) (.lit (.int 2700))) (.lit (.int 3)))), (.var 4)])] (fun fl => ∃ x, outF [] fl = some x ∧ P x)) : ∃ x, runD cf (f_l_other i_l_mixed i_l_drawn i_l_made) [a0, a1, a2] = some x ∧ P x := run_wpE rfl w
def f_l_twos (i_l_names : Nat) (i_l_cell_at : Nat) (i_l_drawn : Nat) (i_l_other : Nat) : FDef := { name := "_law_twos", ps := ["_law_script"], N := ["_law_script", "_law_names_here", "_law_found", "_law_at", "_law_a"], dfl := [], cls := [.F], io := [], fresh := false, body := [
  .asg 1 false (.call i_l_names [(.call i_l_cell_at [(.var 0), (.lit (.int 0))])]),
  .asg 2 true (.lst []),
  .for_ (.name 3) .range [(.lit (.int 1)), (.op2 .max2 (.lit (.int 2)) (.op1 .len (.var 0))), (.lit (.int 8))] [.asg 4 false (.call i_l_drawn [(.slice (.var 0) (some (.var 3)) (some (.op2 .add (.var 3) (.lit (.int 6))))), (.var 1)]), .app 2 (.tup [(.var 4), (.call i_l_other [(.var 4), (.slice (.var 0) (some (.op2 .add (.var 3) (.lit (.int 4)))) (some (.op2 .add (.var 3) (.lit (.int 8))))), (.var 1)])])],
  .frz 2,
  .ret (.var 2)] }
theorem go_l_twos {cf : CF} {a0 : D} {x : D × List D} (i_l_names : Nat) (i_l_cell_at : Nat) (i_l_drawn : Nat) (i_l_other : Nat) (w : Wp cf [some a0, none, none, none, none] [
  .asg 1 false (.call i_l_names [(.call i_l_cell_at [(.var 0), (.lit (.int 0))])]),
  .asg 2 true (.lst []),
  .for_ (.name 3) .range [(.lit (.int 1)), (.op2 .max2 (.lit (.int 2)) (.op1 .len (.var 0))), (.lit (.int 8))] [.asg 4 false (.call i_l_drawn [(.slice (.var 0) (some (.var 3)) (some (.op2 .add (.var 3) (.lit (.int 6))))), (.var 1)]), .app 2 (.tup [(.var 4), (.call i_l_other [(.var 4), (.slice (.var 0) (some (.op2 .add (.var 3) (.lit (.int 4)))) (some (.op2 .add (.var 3) (.lit (.int 8))))), (.var 1)])])],
  .frz 2,
  .ret (.var 2)] (Ends [] x)) : runD cf (f_l_twos i_l_names i_l_cell_at i_l_drawn i_l_other) [a0] = some x := run_wp rfl w
theorem ge_l_twos {cf : CF} {a0 : D} {P : D × List D → Prop} (i_l_names : Nat) (i_l_cell_at : Nat) (i_l_drawn : Nat) (i_l_other : Nat) (w : Wp cf [some a0, none, none, none, none] [
  .asg 1 false (.call i_l_names [(.call i_l_cell_at [(.var 0), (.lit (.int 0))])]),
  .asg 2 true (.lst []),
  .for_ (.name 3) .range [(.lit (.int 1)), (.op2 .max2 (.lit (.int 2)) (.op1 .len (.var 0))), (.lit (.int 8))] [.asg 4 false (.call i_l_drawn [(.slice (.var 0) (some (.var 3)) (some (.op2 .add (.var 3) (.lit (.int 6))))), (.var 1)]), .app 2 (.tup [(.var 4), (.call i_l_other [(.var 4), (.slice (.var 0) (some (.op2 .add (.var 3) (.lit (.int 4)))) (some (.op2 .add (.var 3) (.lit (.int 8))))), (.var 1)])])],
  .frz 2,
  .ret (.var 2)] (fun fl => ∃ x, outF [] fl = some x ∧ P x)) : ∃ x, runD cf (f_l_twos i_l_names i_l_cell_at i_l_drawn i_l_other) [a0] = some x ∧ P x := run_wpE rfl w
abbrev c_l_length_1 : E := (.comp (.op2 .ix (.var 3) (.lit (.int 1))) (.name 3) .of [(.op2 .ix (.var 0) (.lit (.int 1)))] [])
abbrev c_l_length_2 : E := (.comp (.and_ (.isi (.var 4) .int) (.op1 .not_ (.isi (.var 4) .bool))) (.name 4) .of [(.var 2)] [])
def f_l_length : FDef := { name := "_law_length", ps := ["_law_found", "_law_due"], N := ["_law_found", "_law_due", "_law_numbers", "_law_part", "_law_number"], dfl := [], cls := [.F, .F], io := [], fresh := false, body := [
  .iff (.or_ (.op1 .not_ (.isi (.var 0) .tuple)) (.or_ (.op2 .ne (.op1 .len (.var 0)) (.lit (.int 2))) (.or_ (.op1 .not_ (.isi (.op2 .ix (.var 0) (.lit (.int 1))) .tuple)) (.op2 .ne (.var 0) (.var 1))))) [.ret (.lit (.bl false))] [],
  .asg 2 false (.op2 .add (.lst [(.op2 .ix (.var 0) (.lit (.int 0)))]) c_l_length_1),
  .ret (.op1 .all_ c_l_length_2)] }
theorem go_l_length {cf : CF} {a0 a1 : D} {x : D × List D} (w : Wp cf [some a0, some a1, none, none, none] [
  .iff (.or_ (.op1 .not_ (.isi (.var 0) .tuple)) (.or_ (.op2 .ne (.op1 .len (.var 0)) (.lit (.int 2))) (.or_ (.op1 .not_ (.isi (.op2 .ix (.var 0) (.lit (.int 1))) .tuple)) (.op2 .ne (.var 0) (.var 1))))) [.ret (.lit (.bl false))] [],
  .asg 2 false (.op2 .add (.lst [(.op2 .ix (.var 0) (.lit (.int 0)))]) c_l_length_1),
  .ret (.op1 .all_ c_l_length_2)] (Ends [] x)) : runD cf (f_l_length) [a0, a1] = some x := run_wp rfl w
theorem ge_l_length {cf : CF} {a0 a1 : D} {P : D × List D → Prop} (w : Wp cf [some a0, some a1, none, none, none] [
  .iff (.or_ (.op1 .not_ (.isi (.var 0) .tuple)) (.or_ (.op2 .ne (.op1 .len (.var 0)) (.lit (.int 2))) (.or_ (.op1 .not_ (.isi (.op2 .ix (.var 0) (.lit (.int 1))) .tuple)) (.op2 .ne (.var 0) (.var 1))))) [.ret (.lit (.bl false))] [],
  .asg 2 false (.op2 .add (.lst [(.op2 .ix (.var 0) (.lit (.int 0)))]) c_l_length_1),
  .ret (.op1 .all_ c_l_length_2)] (fun fl => ∃ x, outF [] fl = some x ∧ P x)) : ∃ x, runD cf (f_l_length) [a0, a1] = some x ∧ P x := run_wpE rfl w
abbrev c_less_1 : E := (.comp (.tup [(.var 4), (.op2 .sub (.var 5) (.get2 (.var 2) (.var 4) (.lit (.int 0))))]) (.tup [4, 5]) .of [(.op2 .ix (.var 0) (.lit (.int 1)))] [])
abbrev c_less_2 : E := (.comp (.var 6) (.name 6) .of [(.var 3)] [(.op2 .gt (.op2 .ix (.var 6) (.lit (.int 1))) (.lit (.int 0)))])
def f_less (i_exceeding : Nat) : FDef := { name := "less", ps := ["a", "b"], N := ["a", "b", "taken", "parts", "name", "times", "part"], dfl := [], cls := [.F, .F], io := [], fresh := false, body := [
  .iff (.op2 .isnot (.call i_exceeding [(.var 1), (.var 0)]) (.lit (.non))) [.ret (.lit (.non))] [],
  .asg 2 false (.op1 .dict_ (.op2 .ix (.var 1) (.lit (.int 1)))),
  .asg 3 false c_less_1,
  .ret (.tup [(.op2 .sub (.op2 .ix (.var 0) (.lit (.int 0))) (.op2 .ix (.var 1) (.lit (.int 0)))), (.op1 .tuple_ c_less_2)])] }
theorem go_less {cf : CF} {a0 a1 : D} {x : D × List D} (i_exceeding : Nat) (w : Wp cf [some a0, some a1, none, none, none, none, none] [
  .iff (.op2 .isnot (.call i_exceeding [(.var 1), (.var 0)]) (.lit (.non))) [.ret (.lit (.non))] [],
  .asg 2 false (.op1 .dict_ (.op2 .ix (.var 1) (.lit (.int 1)))),
  .asg 3 false c_less_1,
  .ret (.tup [(.op2 .sub (.op2 .ix (.var 0) (.lit (.int 0))) (.op2 .ix (.var 1) (.lit (.int 0)))), (.op1 .tuple_ c_less_2)])] (Ends [] x)) : runD cf (f_less i_exceeding) [a0, a1] = some x := run_wp rfl w
theorem ge_less {cf : CF} {a0 a1 : D} {P : D × List D → Prop} (i_exceeding : Nat) (w : Wp cf [some a0, some a1, none, none, none, none, none] [
  .iff (.op2 .isnot (.call i_exceeding [(.var 1), (.var 0)]) (.lit (.non))) [.ret (.lit (.non))] [],
  .asg 2 false (.op1 .dict_ (.op2 .ix (.var 1) (.lit (.int 1)))),
  .asg 3 false c_less_1,
  .ret (.tup [(.op2 .sub (.op2 .ix (.var 0) (.lit (.int 0))) (.op2 .ix (.var 1) (.lit (.int 0)))), (.op1 .tuple_ c_less_2)])] (fun fl => ∃ x, outF [] fl = some x ∧ P x)) : ∃ x, runD cf (f_less i_exceeding) [a0, a1] = some x ∧ P x := run_wpE rfl w
abbrev c_namesof_1 : E := (.comp (.var 1) (.tup [1, 2]) .of [(.op2 .ix (.var 0) (.lit (.int 1)))] [])
def f_namesof : FDef := { name := "names_of", ps := ["a"], N := ["a", "name", "times"], dfl := [], cls := [.F], io := [], fresh := false, body := [
  .ret c_namesof_1] }
theorem go_namesof {cf : CF} {a0 : D} {x : D × List D} (w : Wp cf [some a0, none, none] [
  .ret c_namesof_1] (Ends [] x)) : runD cf (f_namesof) [a0] = some x := run_wp rfl w
theorem ge_namesof {cf : CF} {a0 : D} {P : D × List D → Prop} (w : Wp cf [some a0, none, none] [
  .ret c_namesof_1] (fun fl => ∃ x, outF [] fl = some x ∧ P x)) : ∃ x, runD cf (f_namesof) [a0] = some x ∧ P x := run_wpE rfl w
def f_noughts (i_names_of : Nat) : FDef := { name := "noughts", ps := ["a", "b"], N := ["a", "b", "found", "name"], dfl := [], cls := [.F, .F], io := [], fresh := true, body := [
  .asg 2 true (.dct [] []),
  .for_ (.name 3) .of [(.op1 .sorted_ (.op2 .add (.call i_names_of [(.var 0)]) (.call i_names_of [(.var 1)])))] [.setix 2 (.var 3) (.lit (.int 0))],
  .ret (.var 2)] }
theorem go_noughts {cf : CF} {a0 a1 : D} {x : D × List D} (i_names_of : Nat) (w : Wp cf [some a0, some a1, none, none] [
  .asg 2 true (.dct [] []),
  .for_ (.name 3) .of [(.op1 .sorted_ (.op2 .add (.call i_names_of [(.var 0)]) (.call i_names_of [(.var 1)])))] [.setix 2 (.var 3) (.lit (.int 0))],
  .ret (.var 2)] (Ends [] x)) : runD cf (f_noughts i_names_of) [a0, a1] = some x := run_wp rfl w
theorem ge_noughts {cf : CF} {a0 a1 : D} {P : D × List D → Prop} (i_names_of : Nat) (w : Wp cf [some a0, some a1, none, none] [
  .asg 2 true (.dct [] []),
  .for_ (.name 3) .of [(.op1 .sorted_ (.op2 .add (.call i_names_of [(.var 0)]) (.call i_names_of [(.var 1)])))] [.setix 2 (.var 3) (.lit (.int 0))],
  .ret (.var 2)] (fun fl => ∃ x, outF [] fl = some x ∧ P x)) : ∃ x, runD cf (f_noughts i_names_of) [a0, a1] = some x ∧ P x := run_wpE rfl w
def f_exceeding (i_noughts : Nat) : FDef := { name := "exceeding", ps := ["a", "b"], N := ["a", "b", "found", "name", "gap"], dfl := [], cls := [.F, .F], io := [], fresh := false, body := [
  .asg 2 true (.call i_noughts [(.var 0), (.var 1)]),
  .iff (.op2 .gt (.op2 .ix (.var 0) (.lit (.int 0))) (.op2 .ix (.var 1) (.lit (.int 0)))) [.frz 2, .ret (.var 2)] [],
  .for_ (.name 3) .of [(.op1 .list_ (.var 2))] [.asg 4 false (.op2 .sub (.get2 (.op1 .dict_ (.op2 .ix (.var 0) (.lit (.int 1)))) (.var 3) (.lit (.int 0))) (.get2 (.op1 .dict_ (.op2 .ix (.var 1) (.lit (.int 1)))) (.var 3) (.lit (.int 0)))), .iff (.op2 .gt (.var 4) (.lit (.int 0))) [.setix 2 (.var 3) (.op2 .add (.op2 .fdiv (.op2 .sub (.op2 .ix (.var 1) (.lit (.int 0))) (.op2 .ix (.var 0) (.lit (.int 0)))) (.var 4)) (.lit (.int 1))), .frz 2, .ret (.var 2)] []],
  .ret (.lit (.non))] }
theorem go_exceeding {cf : CF} {a0 a1 : D} {x : D × List D} (i_noughts : Nat) (w : Wp cf [some a0, some a1, none, none, none] [
  .asg 2 true (.call i_noughts [(.var 0), (.var 1)]),
  .iff (.op2 .gt (.op2 .ix (.var 0) (.lit (.int 0))) (.op2 .ix (.var 1) (.lit (.int 0)))) [.frz 2, .ret (.var 2)] [],
  .for_ (.name 3) .of [(.op1 .list_ (.var 2))] [.asg 4 false (.op2 .sub (.get2 (.op1 .dict_ (.op2 .ix (.var 0) (.lit (.int 1)))) (.var 3) (.lit (.int 0))) (.get2 (.op1 .dict_ (.op2 .ix (.var 1) (.lit (.int 1)))) (.var 3) (.lit (.int 0)))), .iff (.op2 .gt (.var 4) (.lit (.int 0))) [.setix 2 (.var 3) (.op2 .add (.op2 .fdiv (.op2 .sub (.op2 .ix (.var 1) (.lit (.int 0))) (.op2 .ix (.var 0) (.lit (.int 0)))) (.var 4)) (.lit (.int 1))), .frz 2, .ret (.var 2)] []],
  .ret (.lit (.non))] (Ends [] x)) : runD cf (f_exceeding i_noughts) [a0, a1] = some x := run_wp rfl w
theorem ge_exceeding {cf : CF} {a0 a1 : D} {P : D × List D → Prop} (i_noughts : Nat) (w : Wp cf [some a0, some a1, none, none, none] [
  .asg 2 true (.call i_noughts [(.var 0), (.var 1)]),
  .iff (.op2 .gt (.op2 .ix (.var 0) (.lit (.int 0))) (.op2 .ix (.var 1) (.lit (.int 0)))) [.frz 2, .ret (.var 2)] [],
  .for_ (.name 3) .of [(.op1 .list_ (.var 2))] [.asg 4 false (.op2 .sub (.get2 (.op1 .dict_ (.op2 .ix (.var 0) (.lit (.int 1)))) (.var 3) (.lit (.int 0))) (.get2 (.op1 .dict_ (.op2 .ix (.var 1) (.lit (.int 1)))) (.var 3) (.lit (.int 0)))), .iff (.op2 .gt (.var 4) (.lit (.int 0))) [.setix 2 (.var 3) (.op2 .add (.op2 .fdiv (.op2 .sub (.op2 .ix (.var 1) (.lit (.int 0))) (.op2 .ix (.var 0) (.lit (.int 0)))) (.var 4)) (.lit (.int 1))), .frz 2, .ret (.var 2)] []],
  .ret (.lit (.non))] (fun fl => ∃ x, outF [] fl = some x ∧ P x)) : ∃ x, runD cf (f_exceeding i_noughts) [a0, a1] = some x ∧ P x := run_wpE rfl w
abbrev c_l_worth_1 : E := (.comp (.op2 .mul (.var 3) (.get2 (.var 1) (.var 2) (.lit (.int 0)))) (.tup [2, 3]) .of [(.op2 .ix (.var 0) (.lit (.int 1)))] [])
def f_l_worth : FDef := { name := "_law_worth", ps := ["_law_a", "_law_numbers"], N := ["_law_a", "_law_numbers", "_law_name", "_law_times"], dfl := [], cls := [.F, .F], io := [], fresh := false, body := [
  .ret (.op2 .add (.op2 .ix (.var 0) (.lit (.int 0))) (.op1 .sum_ c_l_worth_1))] }
theorem go_l_worth {cf : CF} {a0 a1 : D} {x : D × List D} (w : Wp cf [some a0, some a1, none, none] [
  .ret (.op2 .add (.op2 .ix (.var 0) (.lit (.int 0))) (.op1 .sum_ c_l_worth_1))] (Ends [] x)) : runD cf (f_l_worth) [a0, a1] = some x := run_wp rfl w
theorem ge_l_worth {cf : CF} {a0 a1 : D} {P : D × List D → Prop} (w : Wp cf [some a0, some a1, none, none] [
  .ret (.op2 .add (.op2 .ix (.var 0) (.lit (.int 0))) (.op1 .sum_ c_l_worth_1))] (fun fl => ∃ x, outF [] fl = some x ∧ P x)) : ∃ x, runD cf (f_l_worth) [a0, a1] = some x ∧ P x := run_wpE rfl w
end PyI
end

section
set_option maxRecDepth 100000
set_option maxHeartbeats 4000000
namespace PyI
open PySem
theorem namesOf_ok {c : Int} : ∀ l ∈ namesOf c, nmOk l := by
  intro l hl
  unfold namesOf at hl
  obtain ⟨k, _, rfl⟩ := List.mem_map.mp hl
  exact name_ok c k
theorem namesOf_len (c : Int) : (namesOf c).length = 5 := by unfold namesOf; simp
theorem range3_ok : ∀ m : Fin 65, 2 ≤ m.val → (small62 1 && small62 (m.val : Nat) && decide ((8 : Int) ≠ 0) && decide ((8 : Int).natAbs < 1073741824) && Builtin.Range.small 1 (m.val : Nat) 8 && decide (0 ≤ Builtin.Range.rangeSize 1 (m.val : Nat) 8)) = true ∧ (Builtin.Range.rangeSize 1 (m.val : Nat) 8).toNat = (m.val + 6) / 8 := by decide +kernel
theorem it_range3 {i : Int} (h : 2 ≤ i) (h' : i ≤ 64) : iterD .range [.int 1, .int i, .int 8] = some ((List.range ((i.toNat + 6) / 8)).map fun (k : Nat) => D.int (1 + (k : Int) * 8)) := by
  have := range3_ok ⟨i.toNat, by omega⟩ (by show 2 ≤ i.toNat; omega)
  simp only [Int.toNat_of_nonneg (show 0 ≤ i by omega)] at this
  show (if _ then some (rangeD 1 8 (Builtin.Range.rangeSize 1 i 8).toNat) else none) = _
  rw [if_pos this.1, this.2]
  rfl
/-- a length: canonical, with bounds -/
structure Lg (k : Nat) (m c : Int) (L : List Part) : Prop where
  can : Can L
  nn : 0 ≤ c
  len : L.length ≤ k
  bd : ∀ q ∈ L, q.2 ≤ m
abbrev B58 : Int := 10000000000000000000000000000000000000000000000000000000000
theorem made_lg {T : List Part} {k : Nat} {m c : Int} (hn : (nms T).Nodup) (hl : T.length ≤ k) (hb : ∀ q ∈ T, q.2 ≤ m) (hc : 0 ≤ c) : Lg k m c (madeL T) :=
  ⟨made_can hn, hc, Nat.le_trans (made_len T) hl, fun q hq => hb q (made_mem.mp hq).1⟩
theorem draw_lg {N : List (List Nat)} {c : Int} {T : List Part} {i k : Nat} (I : DrawI N c T i) (h : i ≤ k) : Lg k B58 c (madeL T) := made_lg I.n (Nat.le_trans I.l h) I.b I.c
section
variable {cf : CF}
theorem run_added {a b : Int} {A B : List Part} (hA : Can A) (hB : Can B) (la : A.length ≤ 1000) (lb : B.length ≤ 1000) : runD cf f_added [lenD a A, lenD b B] = some (lenD (a + b) (sumL A B), []) := by
  refine go_added ?_
  have : NdP A := ⟨hA.nd⟩
  refine wp_asg ?_
  refine wp_for (α := Part) (fun pre e => ∃ o3 o4, e = [some (lenD a A), some (lenD b B), some (dicD (addT A pre)), o3, o4]) ⟨_, _, rfl⟩ ?_ ?_
  · rintro pre q post e hl ⟨o3, o4, rfl⟩
    refine bnd_ok ?_
    have hlen : pre.length ≤ 1000 := by
      have := congrArg List.length hl
      simp at this; omega
    refine wp_setP (by have := addT_len A pre; unfold BIG; omega) ?_
    exact wp_nil ⟨_, _, by rw [addT_snoc]⟩
  · rintro e ⟨o3, o4, rfl⟩
    have : AllP (addT A B) := ⟨addT_pos hA.p hB.p⟩
    refine wp_ret ?_
    rfl
def mulL (L : List Part) (n : Int) : List Part := L.map fun q => (q.1, q.2 * n)
def oftL (L : List Part) (n : Int) : List Part := if n = 0 then [] else mulL L n
theorem mulL_nms (L : List Part) (n : Int) : nms (mulL L n) = nms L := by unfold nms mulL; rw [List.map_map]; rfl
theorem oft_made {L : List Part} {n : Int} (h : Can L) (hn : 0 ≤ n) : madeL (mulL L n) = oftL L n := by
  unfold oftL
  by_cases e : n = 0
  · rw [if_pos e]
    unfold madeL
    rw [List.filter_eq_nil_iff.mpr fun q hq => ?_]
    · simp
    · obtain ⟨x, _, rfl⟩ := List.mem_map.mp hq
      rw [e]; simp
  · rw [if_neg e]
    refine made_id ⟨?_, fun q hq => ?_⟩
    · unfold mulL
      rw [List.pairwise_map]
      exact h.r
    · obtain ⟨x, hx, rfl⟩ := List.mem_map.mp hq
      exact Int.mul_pos (h.p x hx) (by omega)
theorem run_often {c n : Int} {L : List Part} (h0 : 0 ≤ n) (hn : n < 18446744073709551616) (hl : L.length ≤ 1000) : runD cf f_often [lenD c L, .int n] = some (lenD (c * n) (oftL L n), []) := by
  refine go_often ?_
  unfold oftL
  by_cases e : n = 0
  · have : Tru (n = 0) := ⟨e⟩
    refine wp_ifT ?_
    refine wp_ret ?_
    show some _ = some _
    rw [if_pos e, e, Int.mul_zero]; rfl
  · have : Fls (n = 0) := ⟨e⟩
    have : Sm64 n := ⟨by omega⟩
    have : LenB L := ⟨by omega⟩
    refine wp_ifF ?_
    refine wp_nilT ?_
    have : Ev cf [some (lenD c L), some (.int n), none, none] c_often_1 (.lst (L.map fun q => partD (q.1, q.2 * n))) := ev_compM (e := partD) (fun q => partD (q.1, q.2 * n)) fun q _ => ev_ok
    refine wp_ret ?_
    rw [if_neg e]
    show some (D.tup [_, .tup (L.map fun q => partD (q.1, q.2 * n))], _) = some (lenD (c * n) (mulL L n), _)
    unfold lenD mulL partsD
    rw [List.map_map]; rfl
theorem run_of_number {n : Int} : runD cf f_of_number [.int n] = some (lenD n [], []) := go_of_number (wp_ret rfl)
theorem run_of_name {io : Nat} {n : List Nat} {t : Int} (h : cf io [lenD 0 [(n, 1)], .int t] = some (lenD (0 * t) (oftL [(n, 1)] t), [])) : runD cf (f_of_name io) [.str (tx n), .int t] = some (lenD (0 * t) (oftL [(n, 1)] t), []) := by
  refine go_of_name _ ?_
  have : Cal cf io [.tup [.int 0, .tup [.tup [.str (tx n), .int 1]]], .int t] (lenD (0 * t) (oftL [(n, 1)] t)) [] := ⟨h⟩
  exact wp_ret rfl
theorem run_l_length {c : Int} {L : List Part} (hl : L.length ≤ 1000) : runD cf f_l_length [lenD c L, lenD c L] = some (.bl true, []) := by
  refine go_l_length ?_
  have : LenB L := ⟨by omega⟩
  refine wp_ifF ?_
  refine wp_nilT ?_
  refine wp_asg ?_
  have e : ([.int c] ++ L.map fun q : Part => D.int q.2) = (c :: L.map (·.2)).map D.int := by simp
  rw [e]
  have : LenB (c :: L.map (·.2)) := ⟨by simp; omega⟩
  exact wp_ret rfl
theorem max0_le {x : Int} (h : x ≤ B58 + 10) : (if x > 0 then x else 0) ≤ B58 + 10 := by
  split
  · exact h
  · decide
theorem ix3 {a b c k : Int} (ha : 0 ≤ a) (hb : 0 ≤ b) (hc : 0 ≤ c) : ∃ v : Int, IxL [D.int a, .int b, .int c] (k % 3) (.int v) ∧ 0 ≤ v := by
  have h : k % 3 = 0 ∨ k % 3 = 1 ∨ k % 3 = 2 := by omega
  rcases h with h | h | h <;> rw [h]
  · exact ⟨a, ⟨by decide, rfl⟩, ha⟩
  · exact ⟨b, ⟨by decide, rfl⟩, hb⟩
  · exact ⟨c, ⟨by decide, rfl⟩, hc⟩
theorem ixN5 {N : List (List Nat)} (h5 : N.length = 5) (k : Int) : ∃ n ∈ N, IxL N (k % 5) n := by
  have hi : (k % 5).toNat < N.length := by omega
  exact ⟨N[(k % 5).toNat], List.getElem_mem hi, by omega, by rw [List.getElem?_eq_getElem hi]⟩
instance sum_ints {ms : List Int} : Sm1 .sum_ (.lst (ms.map D.int)) (.int ms.sum) := ⟨by
  show (intsD _).map _ = _
  have : intsD (ms.map D.int) = some ms := by
    have := intsD_map (fun x : Int => x) ms
    rw [List.map_id'] at this
    exact this
  rw [this]; rfl⟩
theorem run_l_other {im idr imd : Nat} {N : List (List Nat)} {ms : List Int} {c : Int} {L : List Part} [hm : ∀ c k : Int, Cal cf im [.int c, .int k] (.int (mixed c k)) []]
    (hdrawn : ∀ (N : List (List Nat)) (ms : List Int), N.length = 5 → ms.length ≤ 900 → ∃ c T, cf idr [.lst (ms.map D.int), .lst (N.map fun l => D.str (tx l))] = some (lenD c (madeL T), []) ∧ DrawI N c T ms.length)
    [hmd : ∀ (c : Int) (T : List Part) [NdP T] [LenB T], Cal cf imd [.int c, dicD T] (lenD c (madeL T)) []] (h5 : N.length = 5) (hl : ms.length ≤ 20) (G : Lg 20 B58 c L) :
    ∃ x, runD cf (f_l_other im idr imd) [lenD c L, .lst (ms.map D.int), .lst (N.map fun l => D.str (tx l))] = some x ∧ ∃ c' L', x = (lenD c' L', []) ∧ Lg 30 (B58 + 10) c' L' := by
  refine ge_l_other _ _ _ ?_
  have : NdP L := ⟨G.can.nd⟩
  have : LenB L := ⟨by have := G.len; omega⟩
  have G' : Lg 30 (B58 + 10) c L := ⟨G.can, G.nn, by have := G.len; omega, fun q hq => by have := G.bd q hq; omega⟩
  refine wp_asg ?_
  generalize mixed ms.sum 70 = h
  refine wp_asg ?_
  refine wp_asg ?_
  refine wp_if (fun _ => ?_) (fun _ => ?_)
  · obtain ⟨c', T, e, I⟩ := hdrawn N ms h5 (by omega)
    have : Cal cf idr [.lst (ms.map D.int), .lst (N.map fun l => D.str (tx l))] (lenD c' (madeL T)) [] := ⟨e⟩
    have g := draw_lg I hl
    exact wp_ret ⟨_, outF_ret, _, _, rfl, g.can, g.nn, by have := g.len; omega, fun q hq => by have := g.bd q hq; omega⟩
  refine wp_nilT ?_
  refine wp_if (fun _ => ?_) (fun _ => ?_)
  · exact wp_ret ⟨_, outF_ret, c, L, rfl, G'⟩
  refine wp_nilT ?_
  refine wp_if (fun _ => ?_) (fun _ => ?_)
  · refine wp_frz ?_
    exact wp_ret ⟨_, outF_ret, _, _, rfl, made_lg G.can.nd G'.len G'.bd (by have := G.nn; omega)⟩
  refine wp_nilT ?_
  refine wp_if (fun _ => ?_) (fun _ => ?_)
  · refine wp_frz ?_
    have : Dvs (1 + h / 6 % 3) := ⟨by omega, by omega⟩
    exact wp_ret ⟨_, outF_ret, _, _, rfl, made_lg G.can.nd G'.len G'.bd (Int.ediv_nonneg G.nn (by omega))⟩
  refine wp_nilT ?_
  obtain ⟨n, hn, ixn⟩ := ixN5 h5 (h / 6)
  refine wp_asg ?_
  have fin : ∀ T : List Part, (nms T).Nodup → T.length ≤ 30 → (∀ q ∈ T, q.2 ≤ B58 + 10) → Wp cf [some (lenD c L), some (.lst (ms.map D.int)), some (.lst (N.map fun l => D.str (tx l))), some (.int h), some (dicD T), some (.int (h % 6)), some (.str (tx n))] [
      .frz 4,
      .ret (.call imd [(.op2 .ix (.lst [(.op2 .ix (.var 0) (.lit (.int 0))), (.op2 .add (.op2 .ix (.var 0) (.lit (.int 0))) (.op2 .mod (.op2 .fdiv (.var 3) (.lit (.int 90))) (.lit (.int 30)))), (.op2 .fdiv (.op2 .ix (.var 0) (.lit (.int 0))) (.lit (.int 2)))]) (.op2 .mod (.op2 .fdiv (.var 3) (.lit (.int 2700))) (.lit (.int 3)))), (.var 4)])] (fun fl => ∃ x, outF [] fl = some x ∧ ∃ c' L', x = (lenD c' L', []) ∧ Lg 30 (B58 + 10) c' L') := by
    intro T t1 t2 t3
    refine wp_frz ?_
    have : NdP T := ⟨t1⟩
    have : LenB T := ⟨by omega⟩
    have : Dvs 90 := ⟨by decide, by decide⟩
    have : Dvs 2700 := ⟨by decide, by decide⟩
    have : Pos 30 := ⟨by decide⟩
    obtain ⟨v, hv, v0⟩ := ix3 (k := h / 2700) G.nn (show 0 ≤ c + h / 90 % 30 by have := G.nn; omega) (show 0 ≤ c / 2 by have := G.nn; omega)
    exact wp_ret ⟨_, outF_ret, _, _, rfl, made_lg t1 t2 t3 v0⟩
  have : Dvs 30 := ⟨by decide, by decide⟩
  have bg : gv L n ≤ B58 := by
    rcases gv_cases G.can.nd n with ⟨q, hq, _, e⟩ | ⟨_, e⟩
    · rw [e]; exact G.bd q hq
    · rw [e]; decide
  have hB : L.length < BIG := by have := G.len; unfold BIG; omega
  have hput : ∀ v : Int, v ≤ B58 + 10 → (nms (putT L n v)).Nodup ∧ (putT L n v).length ≤ 30 ∧ ∀ q ∈ putT L n v, q.2 ≤ B58 + 10 := fun v hv => ⟨putT_names G.can.nd, by have := putT_len L n v; have := G.len; omega, putT_le G'.bd hv⟩
  refine wp_if (fun e4 => ?_) (fun e4 => ?_)
  · refine wp_setP hB ?_
    refine wp_nilT ?_
    have : Fls (h % 6 = 5) := ⟨by have := of_decide_eq_true e4; omega⟩
    refine wp_ifF ?_
    refine wp_nilT ?_
    obtain ⟨t1, t2, t3⟩ := hput (gv L n + h / 30 % 3) (by omega)
    exact fin _ t1 t2 t3
  · refine wp_nilT ?_
    refine wp_if (fun e5 => ?_) (fun e5 => ?_)
    · refine wp_setP hB ?_
      refine wp_nilT ?_
      obtain ⟨t1, t2, t3⟩ := hput (if gv L n - 1 - h / 30 % 3 > 0 then gv L n - 1 - h / 30 % 3 else 0) (max0_le (by omega))
      exact fin _ t1 t2 t3
    · refine wp_nilT ?_
      exact fin _ G.can.nd G'.len G'.bd
abbrev Tw := (Int × List Part) × (Int × List Part)
def twoD (p : Tw) : D := .tup [lenD p.1.1 p.1.2, lenD p.2.1 p.2.2]
instance bnd_two {p : Tw} {env env' : Env} {is : List Nat} [q : SetA env is [lenD p.1.1 p.1.2, lenD p.2.1 p.2.2] env'] : Bnd (.tup is) (twoD p) env env' := ⟨b_tup q.h.1 |>.trans (by rw [q.h.2])⟩
def TwOk (p : Tw) : Prop := Lg 20 B58 p.1.1 p.1.2 ∧ Lg 30 (B58 + 10) p.2.1 p.2.2
theorem run_l_twos {i0 i1 i2 i3 : Nat} {ns : List Int} (hl : ns.length ≤ 63)
    (hnames : ∀ c : Int, cf i0 [.int c] = some (.lst ((namesOf c).map fun l => .str (tx l)), []))
    (hcell : ∀ k : Nat, cf i1 [.lst (ns.map D.int), .int k] = some (.int (cellAt ns k), []))
    (hdrawn : ∀ (N : List (List Nat)) (ms : List Int), N.length = 5 → ms.length ≤ 900 → ∃ c T, cf i2 [.lst (ms.map D.int), .lst (N.map fun l => D.str (tx l))] = some (lenD c (madeL T), []) ∧ DrawI N c T ms.length)
    (hother : ∀ (N : List (List Nat)) (ms : List Int) (c : Int) (L : List Part), N.length = 5 → ms.length ≤ 20 → Lg 20 B58 c L → ∃ c' L', cf i3 [lenD c L, .lst (ms.map D.int), .lst (N.map fun l => D.str (tx l))] = some (lenD c' L', []) ∧ Lg 30 (B58 + 10) c' L') :
    ∃ x, runD cf (f_l_twos i0 i1 i2 i3) [.lst (ns.map D.int)] = some x ∧ ∃ P : List Tw, x = (.lst (P.map twoD), []) ∧ P.length ≤ 64 ∧ ∀ p ∈ P, TwOk p := by
  refine ge_l_twos _ _ _ _ ?_
  have : LenB ns := ⟨by omega⟩
  have : Cal cf i1 [.lst (ns.map D.int), .int 0] (.int (cellAt ns 0)) [] := ⟨hcell 0⟩
  have : Cal cf i0 [.int (cellAt ns 0)] (.lst ((namesOf (cellAt ns 0)).map fun l => .str (tx l))) [] := ⟨hnames _⟩
  refine wp_asg ?_
  have h5 := namesOf_len (cellAt ns 0)
  generalize namesOf (cellAt ns 0) = N at *
  refine wp_asg ?_
  have hmx : 2 ≤ (if (ns.length : Int) > 2 then (ns.length : Int) else 2) ∧ (if (ns.length : Int) > 2 then (ns.length : Int) else 2) ≤ 64 := by split <;> omega
  have : Itr .range [.int 1, .int (if (ns.length : Int) > 2 then (ns.length : Int) else 2), .int 8] _ := ⟨it_range3 hmx.1 hmx.2⟩
  have hk : ((if (ns.length : Int) > 2 then (ns.length : Int) else 2).toNat + 6) / 8 ≤ 64 := by omega
  refine wp_for (α := Nat) (fun pre e => ∃ o3 o4, ∃ P : List Tw, e = [some (.lst (ns.map D.int)), some (.lst (N.map fun l => .str (tx l))), some (.lst (P.map twoD)), o3, o4] ∧ P.length = pre.length ∧ ∀ p ∈ P, TwOk p) ⟨_, _, [], rfl, rfl, by simp⟩ ?_ ?_
  · rintro pre a post e hl ⟨o3, o4, P, rfl, hP, hok⟩
    refine bnd_ok ?_
    have h0 : 0 ≤ 1 + (a : Int) * 8 := by omega
    generalize (1 + (a : Int) * 8) = at_ at *
    have hpre : pre.length < 64 := by
      have := congrArg List.length hl
      simp at this; omega
    have c1 : (cutL ns (some at_) (some (at_ + 6))).length ≤ 20 := by rw [cutL_mid _ h0 (by omega), List.length_drop, List.length_take]; omega
    have c2 : (cutL ns (some (at_ + 4)) (some (at_ + 8))).length ≤ 20 := by rw [cutL_mid _ (by omega) (by omega), List.length_drop, List.length_take]; omega
    obtain ⟨c, T, e1, I⟩ := hdrawn N (cutL ns (some at_) (some (at_ + 6))) h5 (by omega)
    have : Cal cf i2 [.lst ((cutL ns (some at_) (some (at_ + 6))).map D.int), .lst (N.map fun l => D.str (tx l))] (lenD c (madeL T)) [] := ⟨e1⟩
    refine wp_asg ?_
    have G := draw_lg I c1
    generalize madeL T = L at *
    obtain ⟨c', L', e2, G'⟩ := hother N (cutL ns (some (at_ + 4)) (some (at_ + 8))) c L h5 c2 G
    have : Cal cf i3 [lenD c L, .lst ((cutL ns (some (at_ + 4)) (some (at_ + 8))).map D.int), .lst (N.map fun l => D.str (tx l))] (lenD c' L') [] := ⟨e2⟩
    refine wp_app (by rw [List.length_map]; unfold BIG; omega) ?_
    refine wp_nil ⟨_, _, P ++ [((c, L), (c', L'))], by rw [List.map_append]; rfl, by simp [hP], fun p hp => ?_⟩
    rcases List.mem_append.mp hp with hp | hp
    · exact hok p hp
    · rw [List.mem_singleton.mp hp]; exact ⟨G, G'⟩
  · rintro e ⟨o3, o4, P, rfl, hP, hok⟩
    refine wp_frz ?_
    exact wp_ret ⟨_, outF_ret, P, rfl, by rw [hP, List.length_range]; exact hk, hok⟩
end
end PyI
end

section
set_option maxRecDepth 100000
set_option maxHeartbeats 4000000
namespace PyI
open PySem
/-! names in order -/
def strLe (p q : List Nat) : Bool := PySem.W.dataLe false toPy (.str (tx p)) (.str (tx q))
theorem strLe_eq (p q : List Nat) : strLe p q = !decide (q < p) := by
  unfold strLe
  rw [PySem.W.dataLe_eq]
  show (!PySem.W.dataLt (.str (tx q)) (.str (tx p))) = _
  rw [PySem.W.dataLt_str, tx_toList, tx_toList]
def strsD' (L : List (List Nat)) : List D := L.map fun l => .str (tx l)
theorem sortOk_strs (L : List (List Nat)) : sortOk (strsD' L) = true := by
  unfold sortOk
  have h1 : (strsD' L).all (fun a => (strsD' L).all fun b => PySem.W.alike (toPy a) (toPy b)) = true := by
    rw [List.all_eq_true]
    intro a ha
    rw [List.all_eq_true]
    intro b hb
    unfold strsD' at ha hb
    obtain ⟨p, _, rfl⟩ := List.mem_map.mp ha
    obtain ⟨q, _, rfl⟩ := List.mem_map.mp hb
    rfl
  have h3 : (strsD' L).all (fun a => plainD a && decide ((toPy a).depth ≤ 50)) = true := by
    rw [List.all_eq_true]
    intro a ha
    unfold strsD' at ha
    obtain ⟨p, _, rfl⟩ := List.mem_map.mp ha
    rfl
  rw [h1, h3]
  simp only [Bool.true_and, Bool.and_true, Bool.or_eq_true, List.all_eq_true]
  right
  intro a ha
  unfold strsD' at ha
  obtain ⟨p, _, rfl⟩ := List.mem_map.mp ha
  rfl
theorem sortD_strs (L : List (List Nat)) : sortD (strsD' L) = some (strsD' (L.mergeSort strLe)) := by
  unfold sortD
  rw [if_pos (sortOk_strs L)]
  congr 1
  unfold strsD'
  exact (List.map_mergeSort (r := strLe) (s := PySem.W.dataLe false toPy) (f := fun l => D.str (tx l)) (l := L) fun a _ b _ => rfl).symm
instance sorted_names {A B : List Part} : Sm1 .sorted_ (.lst (A.map (fun q => D.str (tx q.1)) ++ B.map (fun q => D.str (tx q.1)))) (.lst (((nms A ++ nms B).mergeSort strLe).map fun l => D.str (tx l))) := ⟨by
  show (sortD _).map D.lst = _
  have e : (A.map (fun q => D.str (tx q.1)) ++ B.map (fun q => D.str (tx q.1))) = strsD' (nms A ++ nms B) := by unfold strsD' nms; rw [List.map_append, List.map_map, List.map_map]; rfl
  rw [e, sortD_strs]; rfl⟩
theorem nmlt_trans {a b c : List Nat} (h : a < b) (h' : b < c) : a < c := List.lt_trans h h'
theorem strLe_trans (a b c : List Nat) (h1 : strLe a b = true) (h2 : strLe b c = true) : strLe a c = true := by
  rw [strLe_eq, Bool.not_eq_true', decide_eq_false_iff_not] at *
  exact List.not_lt.mpr (List.le_trans (List.not_lt.mp h1) (List.not_lt.mp h2))
theorem strLe_total (a b : List Nat) : (strLe a b || strLe b a) = true := by
  rw [strLe_eq, strLe_eq, Bool.or_eq_true, Bool.not_eq_true', Bool.not_eq_true', decide_eq_false_iff_not, decide_eq_false_iff_not]
  by_cases c : b < a
  · right; exact fun d => List.lt_irrefl _ (List.lt_trans c d)
  · exact .inl c
/-- all at nought -/
def nouT (l : List (List Nat)) : List Part := l.foldl (fun T n => putT T n 0) []
theorem nou_snoc (l : List (List Nat)) (n : List Nat) : nouT (l ++ [n]) = putT (nouT l) n 0 := by unfold nouT; rw [List.foldl_append]; rfl
theorem put_nms (T : List Part) (n : List Nat) (v : Int) : nms (putT T n v) = if n ∈ nms T then nms T else nms T ++ [n] := by
  by_cases h : n ∈ nms T
  · rw [if_pos h]
    unfold putT
    have : (T.any fun q => decide (q.1 = n)) = true := by
      obtain ⟨q, h1, h2⟩ := List.mem_map.mp h
      exact List.any_eq_true.mpr ⟨q, h1, decide_eq_true h2⟩
    rw [if_pos this]
    unfold nms
    rw [List.map_map]
    refine List.map_congr_left fun q _ => ?_
    simp only [Function.comp_apply]
    split <;> rfl
  · rw [if_neg h, putT_new h]
    unfold nms
    rw [List.map_append]; rfl
/-- by a list that grows at its end -/
theorem snoc_ind {α : Type} {P : List α → Prop} (h0 : P []) (hs : ∀ l a, P l → P (l ++ [a])) : ∀ l, P l := by
  intro l
  have : ∀ n (l : List α), l.length = n → P l := by
    intro n
    induction n with
    | zero => intro l hl; rw [List.eq_nil_of_length_eq_zero hl]; exact h0
    | succ n ih =>
      intro l hl
      have hne : l ≠ [] := fun e => by rw [e] at hl; cases hl
      rw [← List.dropLast_concat_getLast hne]
      exact hs _ _ (ih _ (by rw [List.length_dropLast, hl]; rfl))
  exact this _ l rfl
theorem nou_mem : ∀ (l : List (List Nat)) (n : List Nat), n ∈ nms (nouT l) ↔ n ∈ l := by
  refine snoc_ind (by intro n; exact Iff.rfl) fun l a ih n => ?_
  rw [nou_snoc, put_nms]
  split
  · rename_i h
    rw [ih, List.mem_append, List.mem_singleton]
    exact ⟨.inl, fun z => z.elim id fun e => by rw [e]; exact (ih a).mp h⟩
  · rw [List.mem_append, List.mem_append, ih]
theorem nou_nd : ∀ l : List (List Nat), (nms (nouT l)).Nodup := by
  refine snoc_ind List.nodup_nil fun l a ih => ?_
  rw [nou_snoc]
  exact putT_names ih
theorem nou_len : ∀ l : List (List Nat), (nouT l).length ≤ l.length := by
  refine snoc_ind (Nat.le_refl _) fun l a ih => ?_
  rw [nou_snoc, List.length_append, List.length_singleton]
  exact Nat.le_trans (putT_len _ _ _) (Nat.succ_le_succ ih)
theorem nou_zero : ∀ (l : List (List Nat)), ∀ q ∈ nouT l, q.2 = 0 := by
  refine snoc_ind (by intro q h; cases h) fun l a ih q hq => ?_
  rw [nou_snoc] at hq
  unfold putT at hq
  split at hq
  · obtain ⟨x, h1, h2⟩ := List.mem_map.mp hq
    split at h2
    · rw [← h2]
    · rw [← h2]; exact ih x h1
  · rcases List.mem_append.mp hq with hq | hq
    · exact ih q hq
    · rw [List.mem_singleton.mp hq]
def nouAB (A B : List Part) : List Part := nouT ((nms A ++ nms B).mergeSort strLe)
theorem nouAB_mem (A B : List Part) (n : List Nat) : n ∈ nms (nouAB A B) ↔ n ∈ nms A ∨ n ∈ nms B := by
  unfold nouAB
  rw [nou_mem, List.mem_mergeSort, List.mem_append]
theorem nouAB_len (A B : List Part) : (nouAB A B).length ≤ A.length + B.length := by
  unfold nouAB
  have := nou_len ((nms A ++ nms B).mergeSort strLe)
  rw [List.length_mergeSort, List.length_append] at this
  unfold nms at this
  rwa [List.length_map, List.length_map] at this
instance list_dic {T : List Part} : Sm1 .list_ (dicD T) (.lst (T.map fun q => D.str (tx q.1))) := ⟨by
  show some (D.lst ((T.map keyQ).map fun kv => ofKey kv.1)) = _
  rw [List.map_map]; rfl⟩
class DvB (i : Int) : Prop where h : 0 < i ∧ i ≤ 1000000000000000000000000000000000000000000000000000000000000
instance {i j : Int} [p : DvB j] : Sm2 .fdiv (.int i) (.int j) (.int (i / j)) := ⟨by
  have h := p.h
  have hl : j.natAbs.log2 < 9000 := by
    have h1 : j.natAbs.log2 < 200 := (Nat.log2_lt (by omega)).mpr (by omega)
    omega
  show (if divOk j = true then some (D.int (i / j)) else none) = _
  rw [if_pos (by simp [divOk, h.1, hl])]⟩
theorem boolsD_mapF {α : Type} (f : α → Bool) (L : List α) : boolsD (L.map fun a => D.bl (f a)) = some (L.map f) := by
  induction L with
  | nil => rfl
  | cons b r ih => simp [boolsD, ih]
instance any_map {α : Type} {f : α → Bool} {L : List α} : Sm1 .any_ (.lst (L.map fun a => D.bl (f a))) (.bl (L.any f)) := ⟨by
  show (boolsD _).map (fun bs => D.bl (bs.any id)) = _
  rw [boolsD_mapF, Option.map_some, List.any_map]; rfl⟩
/-- a is greater somewhere -/
def Exc (a b : Int) (A B : List Part) : Prop := b < a ∨ ∃ n, gv B n < gv A n
noncomputable instance exc_dec {a b : Int} {A B : List Part} : Decidable (Exc a b A B) := Classical.propDecidable _
section
variable {cf : CF}
theorem run_noughts {i : Nat} {a b : Int} {A B : List Part} (la : A.length ≤ 1000) (lb : B.length ≤ 1000) (hof : ∀ (n : Int) (L : List Part), L.length ≤ BIG → cf i [lenD n L] = some (.lst (L.map fun q => .str (tx q.1)), [])) :
    runD cf (f_noughts i) [lenD a A, lenD b B] = some (dicD (nouAB A B), []) := by
  refine go_noughts _ ?_
  have : LenB A := ⟨by omega⟩
  have : LenB B := ⟨by omega⟩
  have : Cal cf i [lenD a A] (.lst (A.map fun q => .str (tx q.1))) [] := ⟨hof _ _ (by unfold BIG; omega)⟩
  have : Cal cf i [lenD b B] (.lst (B.map fun q => .str (tx q.1))) [] := ⟨hof _ _ (by unfold BIG; omega)⟩
  refine wp_asg ?_
  refine wp_for (α := List Nat) (fun pre e => ∃ o3, e = [some (lenD a A), some (lenD b B), some (dicD (nouT pre)), o3]) ⟨_, rfl⟩ ?_ ?_
  · rintro pre n post e hl ⟨o3, rfl⟩
    have hlen : pre.length ≤ 2000 := by
      have := congrArg List.length hl
      rw [List.length_mergeSort] at this
      unfold nms at this
      simp at this; omega
    refine bnd_ok ?_
    refine wp_setP (by have := nou_len pre; unfold BIG; omega) ?_
    exact wp_nil ⟨_, by rw [nou_snoc]⟩
  · rintro e ⟨o3, rfl⟩
    exact wp_ret rfl
theorem run_exceeding {i : Nat} {a b : Int} {A B : List Part} (hA : Can A) (hB : Can B) (la : A.length ≤ 1000) (lb : B.length ≤ 1000) (bd : ∀ q ∈ A, q.2 ≤ 1000000000000000000000000000000000000000000000000000000000000)
    (hn : cf i [lenD a A, lenD b B] = some (dicD (nouAB A B), [])) :
    ∃ x, runD cf (f_exceeding i) [lenD a A, lenD b B] = some x ∧ ((¬ Exc a b A B ∧ x = (.non, [])) ∨ (b < a ∧ x = (dicD (nouAB A B), [])) ∨
      (a ≤ b ∧ ∃ pre q post, nouAB A B = pre ++ q :: post ∧ (∀ p ∈ pre, gv A p.1 ≤ gv B p.1) ∧ gv B q.1 < gv A q.1 ∧ x = (dicD (putT (nouAB A B) q.1 ((b - a) / (gv A q.1 - gv B q.1) + 1)), []))) := by
  refine ge_exceeding _ ?_
  have : Cal cf i [lenD a A, lenD b B] (dicD (nouAB A B)) [] := ⟨hn⟩
  have : NdP A := ⟨hA.nd⟩
  have : NdP B := ⟨hB.nd⟩
  have hlen := nouAB_len A B
  have : LenB (nouAB A B) := ⟨by omega⟩
  refine wp_asg ?_
  refine wp_if (fun h => ?_) (fun h => ?_)
  · refine wp_frz ?_
    exact wp_ret ⟨_, outF_ret, .inr (.inl ⟨of_decide_eq_true h, rfl⟩)⟩
  · refine wp_nilT ?_
    have hab : a ≤ b := by have := of_decide_eq_false h; omega
    refine wp_for (α := Part) (fun pre e => (∃ o3 o4, e = [some (lenD a A), some (lenD b B), some (dicD (nouAB A B)), o3, o4]) ∧ ∀ p ∈ pre, gv A p.1 ≤ gv B p.1) ⟨⟨_, _, rfl⟩, by simp⟩ ?_ ?_
    · rintro pre q post e hl ⟨⟨o3, o4, rfl⟩, hp⟩
      refine bnd_ok ?_
      refine wp_asg ?_
      refine wp_if (fun hg => ?_) (fun hg => ?_)
      · have hg' := of_decide_eq_true hg
        have hq : gv A q.1 ≤ 1000000000000000000000000000000000000000000000000000000000000 := by
          rcases gv_cases hA.nd q.1 with ⟨x, hx, _, e⟩ | ⟨_, e⟩
          · rw [e]; exact bd x hx
          · rw [e]; decide
        have hqb := gv_nn hB.p q.1
        have : DvB (gv A q.1 - gv B q.1) := ⟨hg', by omega⟩
        refine wp_setP (by unfold BIG; omega) ?_
        refine wp_frz ?_
        exact wp_ret ⟨_, outF_ret, .inr (.inr ⟨hab, pre, q, post, hl.symm, hp, by omega, rfl⟩)⟩
      · have hg' := of_decide_eq_false hg
        refine wp_nilT ?_
        refine wp_nil ⟨⟨_, _, rfl⟩, fun p hpp => ?_⟩
        rcases List.mem_append.mp hpp with hpp | hpp
        · exact hp p hpp
        · rw [List.mem_singleton.mp hpp]; omega
    · rintro e ⟨⟨o3, o4, rfl⟩, hp⟩
      refine wp_ret ⟨_, outF_ret, .inl ⟨?_, rfl⟩⟩
      rintro (z | ⟨n, z⟩)
      · omega
      · have hnA : n ∈ nms A := by
          by_cases c : n ∈ nms A
          · exact c
          · rw [gv_none c] at z
            have := gv_nn hB.p n
            omega
        obtain ⟨q, hq, rfl⟩ := List.mem_map.mp ((nouAB_mem A B n).mpr (.inl hnA))
        have := hp q hq
        omega
def subL (A B : List Part) : List Part := (A.map fun q => (q.1, q.2 - gv B q.1)).filter fun q => decide (0 < q.2)
theorem subL_can {A B : List Part} (a : Can A) : Can (subL A B) := by
  refine ⟨?_, fun q hq => ?_⟩
  · unfold subL
    refine List.Pairwise.filter _ ?_
    rw [List.pairwise_map]
    exact a.r
  · unfold subL at hq
    rw [List.mem_filter, decide_eq_true_eq] at hq
    exact hq.2
theorem subL_gv {A B : List Part} (a : Can A) (b : Can B) (h : ∀ n, gv B n ≤ gv A n) (n : List Nat) : gv (subL A B) n = gv A n - gv B n := by
  rcases gv_cases (subL_can (B := B) a).nd n with ⟨q, hq, rfl, e⟩ | ⟨hn, e⟩
  · unfold subL at hq
    rw [List.mem_filter, decide_eq_true_eq] at hq
    obtain ⟨x, hx, rfl⟩ := List.mem_map.mp hq.1
    have := gv_mem a.nd hx
    rw [e, this]
  · rw [e]
    have h1 := h n
    by_cases c : gv B n < gv A n
    · exfalso
      rcases gv_cases a.nd n with ⟨q, hq, rfl, e2⟩ | ⟨hq, e2⟩
      · refine hn (List.mem_map.mpr ⟨(q.1, q.2 - gv B q.1), ?_, rfl⟩)
        unfold subL
        rw [List.mem_filter, decide_eq_true_eq]
        exact ⟨List.mem_map_of_mem (f := fun q : Part => (q.1, q.2 - gv B q.1)) hq, by show 0 < q.2 - gv B q.1; omega⟩
      · have := gv_nn b.p n
        omega
    · omega
theorem run_less {i : Nat} {a b : Int} {A B : List Part} (hA : Can A) (hB : Can B) (la : A.length ≤ 1000) (lb : B.length ≤ 1000)
    (hx : ∃ d, cf i [lenD b B, lenD a A] = some (d, []) ∧ ((¬ Exc b a B A ∧ d = .non) ∨ (Exc b a B A ∧ IsN d false))) :
    runD cf (f_less i) [lenD a A, lenD b B] = some (if Exc b a B A then .non else lenD (a - b) (subL A B), []) := by
  refine go_less _ ?_
  obtain ⟨d, e, hd⟩ := hx
  have : Cal cf i [lenD b B, lenD a A] d [] := ⟨e⟩
  rcases hd with ⟨h, rfl⟩ | ⟨h, hd⟩
  · rw [if_neg h]
    have : NdP B := ⟨hB.nd⟩
    have : LenB A := ⟨by omega⟩
    refine wp_ifF ?_
    refine wp_nilT ?_
    refine wp_asg ?_
    have : Ev cf [some (lenD a A), some (lenD b B), some (dicD B), none, none, none, none] c_less_1 (.lst (A.map fun q => partD (q.1, q.2 - gv B q.1))) := ev_compM (e := partD) (fun q => partD (q.1, q.2 - gv B q.1)) fun q _ => ev_ok
    refine wp_asg ?_
    have e2 : (A.map fun q => partD (q.1, q.2 - gv B q.1)) = (A.map fun q => (q.1, q.2 - gv B q.1)).map partD := by rw [List.map_map]; rfl
    rw [e2]
    have : LenB (A.map fun q => (q.1, q.2 - gv B q.1)) := ⟨by rw [List.length_map]; omega⟩
    have : Ev cf [some (lenD a A), some (lenD b B), some (dicD B), some (.lst ((A.map fun q => (q.1, q.2 - gv B q.1)).map partD)), none, none, none] c_less_2 (.lst ((subL A B).map partD)) :=
      ev_compF (e := partD) (fun q => decide (0 < q.2)) partD fun q _ => ⟨_, b_name, by
        have : Ev cf [some (lenD a A), some (lenD b B), some (dicD B), some (.lst ((A.map fun q => (q.1, q.2 - gv B q.1)).map partD)), none, none, some (partD q)] (.op2 .gt (.op2 .ix (.var 6) (.lit (.int 1))) (.lit (.int 0))) (.bl (decide (0 < q.2))) := inferInstance
        exact this.h, fun _ => rfl⟩
    exact wp_ret rfl
  · rw [if_pos h]
    refine wp_ifT ?_
    exact wp_ret rfl
end
end PyI
end

section
set_option maxRecDepth 100000
set_option maxHeartbeats 4000000
namespace PyI
open PySem
def keyG {α : Type} (f : α → D) (q : List Nat × α) : Key × D := (.inr (tx q.1), f q.2)
def dicG {α : Type} (f : α → D) (T : List (List Nat × α)) : D := .dic (T.map (keyG f))
def nmG {α : Type} (T : List (List Nat × α)) : List (List Nat) := T.map (·.1)
def putG {α : Type} (T : List (List Nat × α)) (n : List Nat) (v : α) : List (List Nat × α) := if (T.any fun q => decide (q.1 = n)) = true then T.map (fun q => if q.1 = n then (q.1, v) else q) else T ++ [(n, v)]
def lookG {α : Type} : List (List Nat × α) → List Nat → Option α
  | [], _ => none
  | q :: r, n => if q.1 = n then some q.2 else lookG r n
section
variable {α : Type} {f : α → D} {T : List (List Nat × α)}
theorem keyG_eq (q : List Nat × α) (n : List Nat) : decide ((keyG f q).1 = (Sum.inr (tx n) : Key)) = decide (q.1 = n) := by
  rw [Bool.eq_iff_iff, decide_eq_true_eq, decide_eq_true_eq]
  constructor
  · intro h
    exact tx_inj (by injection h)
  · intro h
    show (Sum.inr (tx q.1) : Key) = _
    rw [h]
theorem dput_dicG (T : List (List Nat × α)) (n : List Nat) (v : α) : dput (T.map (keyG f)) (.inr (tx n)) (f v) = (putG T n v).map (keyG f) := by
  unfold dput putG
  have h : ((T.map (keyG f)).any fun kv => decide (kv.1 = (Sum.inr (tx n) : Key))) = T.any fun q => decide (q.1 = n) := by
    rw [List.any_map]
    congr 1
    funext q
    exact keyG_eq q n
  rw [h]
  split
  · rw [List.map_map, List.map_map]
    refine List.map_congr_left fun q _ => ?_
    have := keyG_eq (f := f) q n
    by_cases e : q.1 = n
    · have e' : (keyG f q).1 = (Sum.inr (tx n) : Key) := by
        rw [decide_eq_true e] at this; exact of_decide_eq_true this
      simp only [Function.comp_apply, if_pos e, if_pos e']
      rfl
    · have e' : ¬ (keyG f q).1 = (Sum.inr (tx n) : Key) := by
        rw [decide_eq_false e] at this; exact of_decide_eq_false this
      simp only [Function.comp_apply, if_neg e, if_neg e']
  · rw [List.map_append]; rfl
theorem dget_dicG (T : List (List Nat × α)) (n : List Nat) : dget (T.map (keyG f)) (.inr (tx n)) = (lookG T n).map f := by
  induction T with
  | nil => rfl
  | cons q r ih =>
    unfold dget at ih ⊢
    rw [List.map_cons, List.find?_cons, keyG_eq, lookG]
    by_cases e : q.1 = n
    · rw [decide_eq_true e, if_pos e]; rfl
    · rw [decide_eq_false e, if_neg e]; exact ih
theorem lookG_mem {n : List Nat} {v : α} (h : lookG T n = some v) : (n, v) ∈ T := by
  induction T with
  | nil => cases h
  | cons q r ih =>
    rw [lookG] at h
    split at h
    · rename_i e
      cases h
      rw [← e]; exact List.mem_cons_self
    · exact List.mem_cons_of_mem _ (ih h)
theorem lookG_of {q : List Nat × α} (hn : (nmG T).Nodup) (h : q ∈ T) : lookG T q.1 = some q.2 := by
  induction T with
  | nil => cases h
  | cons x r ih =>
    unfold nmG at hn
    rw [List.map_cons, List.nodup_cons] at hn
    rw [lookG]
    rcases List.mem_cons.mp h with rfl | h
    · rw [if_pos rfl]
    · rw [if_neg fun e => hn.1 (by rw [e]; exact List.mem_map_of_mem h)]
      exact ih hn.2 h
theorem lookG_none {n : List Nat} (h : n ∉ nmG T) : lookG T n = none := by
  cases e : lookG T n with
  | none => rfl
  | some v => exact absurd (List.mem_map_of_mem (f := (·.1)) (lookG_mem e)) h
theorem putG_len (T : List (List Nat × α)) (n : List Nat) (v : α) : (putG T n v).length ≤ T.length + 1 := by
  unfold putG
  split <;> simp
theorem putG_nd {n : List Nat} {v : α} (h : (nmG T).Nodup) : (nmG (putG T n v)).Nodup := by
  unfold putG nmG at *
  split
  · have : (T.map (fun q => if q.1 = n then (q.1, v) else q)).map (·.1) = T.map (·.1) := by
      rw [List.map_map]
      refine List.map_congr_left fun q _ => ?_
      simp only [Function.comp_apply]
      split <;> rfl
    rw [this]; exact h
  · rename_i hq
    rw [List.map_append, List.nodup_append]
    refine ⟨h, by simp, ?_⟩
    intro a ha b hb e
    simp at hb
    subst hb e
    obtain ⟨q, h1, h2⟩ := List.mem_map.mp ha
    exact hq (List.any_eq_true.mpr ⟨q, h1, by simpa using h2⟩)
theorem putG_all {P : α → Prop} {n : List Nat} {v : α} (h : ∀ q ∈ T, P q.2) (hv : P v) : ∀ q ∈ putG T n v, P q.2 := by
  intro q hq
  unfold putG at hq
  split at hq
  · obtain ⟨x, h1, h2⟩ := List.mem_map.mp hq
    split at h2
    · rw [← h2]; exact hv
    · rw [← h2]; exact h x h1
  · rcases List.mem_append.mp hq with hq | hq
    · exact h q hq
    · rw [List.mem_singleton.mp hq]; exact hv
theorem lookG_put (T : List (List Nat × α)) (n : List Nat) (v : α) (m : List Nat) : lookG (putG T n v) m = if m = n then some v else lookG T m := by
  unfold putG
  split
  · rename_i h
    induction T with
    | nil => cases h
    | cons q r ih =>
      rw [List.map_cons, lookG, lookG]
      by_cases e : q.1 = n
      · rw [if_pos e]
        simp only []
        by_cases e2 : m = n
        · rw [if_pos (by rw [e, e2]), if_pos e2]
        · rw [if_neg fun z => e2 (by rw [← z, e]), if_neg e2, if_neg fun z => e2 (by rw [← z, e])]
          have key2 : ∀ r : List (List Nat × α), lookG (r.map fun q => if q.1 = n then (q.1, v) else q) m = lookG r m := by
            intro r
            induction r with
            | nil => rfl
            | cons y r ih =>
              rw [List.map_cons, lookG, lookG, ih]
              by_cases e3 : y.1 = n
              · rw [if_pos e3]; simp only []; rw [if_neg fun z => e2 (by rw [← z, e3]), if_neg fun z => e2 (by rw [← z, e3])]
              · rw [if_neg e3]
          exact key2 r
      · rw [if_neg e]
        rw [List.any_cons, decide_eq_false e, Bool.false_or] at h
        rw [ih h]
        by_cases e2 : q.1 = m
        · rw [if_pos e2, if_neg fun z => e (by rw [e2, z]), if_pos e2]
        · rw [if_neg e2, if_neg e2]
  · rename_i h
    induction T with
    | nil =>
      rw [List.nil_append, lookG, lookG]
      by_cases e : m = n
      · rw [if_pos e, if_pos e.symm]
      · rw [if_neg e, if_neg fun z => e z.symm]; rfl
    | cons q r ih =>
      rw [List.any_cons, Bool.or_eq_true, not_or, decide_eq_true_eq] at h
      rw [List.cons_append, lookG, lookG, ih h.2]
      by_cases e2 : q.1 = m
      · rw [if_pos e2, if_pos e2, if_neg fun z => h.1 (by rw [e2, z])]
      · rw [if_neg e2, if_neg e2]
instance dict_dicG : Sm1 .dict_ (dicG f T) (dicG f T) := ⟨rfl⟩
instance keys_dicG : Itr .keys [dicG f T] (T.map fun q => D.str (tx q.1)) := ⟨by
  show some ((T.map (keyG f)).map fun kv => ofKey kv.1) = _
  rw [List.map_map]; rfl⟩
theorem ev_get2G {cf : CF} {env : Env} {d k x : E} {n : List Nat} {z : D} (p : Ev cf env d (dicG f T)) (q : Ev cf env k (.str (tx n))) (r : Ev cf env x z) : Ev cf env (.get2 d k x) (((lookG T n).map f).getD z) := ⟨by
  rw [evalE, p.h]
  unfold dicG
  simp only []
  rw [q.h, r.h]
  show some ((dget (T.map (keyG f)) (.inr (tx n))).getD z) = _
  rw [dget_dicG]⟩
theorem ix_dicG {n : List Nat} {v : α} (h : lookG T n = some v) : Sm2 .ix (dicG f T) (.str (tx n)) (f v) := ⟨by
  show dget (T.map (keyG f)) (.inr (tx n)) = _
  rw [dget_dicG, h]; rfl⟩
theorem eq_dicG (hn : (nmG T).Nodup) (hp : ∀ q ∈ T, PlnD 12 (f q.2)) : eqSem (dicG f T) (dicG f T) = some true := by
  have pl : ((T.map (keyG f)).all fun kv => plainD kv.2) = true := by
    rw [List.all_eq_true]
    intro x hx
    obtain ⟨q, hq, rfl⟩ := List.mem_map.mp hx
    exact (hp q hq).h.1
  have dp : ((T.map (keyG f)).all fun kv => decide ((toPy kv.2).depth ≤ 100)) = true := by
    rw [List.all_eq_true]
    intro x hx
    obtain ⟨q, hq, rfl⟩ := List.mem_map.mp hx
    have := (hp q hq).h.2
    exact decide_eq_true (by show (toPy (f q.2)).depth ≤ 100; omega)
  show (if (((T.map (keyG f)).all fun kv => plainD kv.2) && ((T.map (keyG f)).all fun kv => plainD kv.2) && ((T.map (keyG f)).all fun kv => decide ((toPy kv.2).depth ≤ 100))) = true then some (dicEq (T.map (keyG f)) (T.map (keyG f))) else none) = _
  rw [pl, dp]
  refine (if_pos rfl).trans ?_
  congr 1
  unfold dicEq
  rw [beq_self_eq_true, Bool.true_and, List.all_eq_true]
  intro x hx
  obtain ⟨q, hq, rfl⟩ := List.mem_map.mp hx
  show (match dget (T.map (keyG f)) (.inr (tx q.1)) with | some y => deq (f q.2) y | none => false) = true
  rw [dget_dicG, lookG_of hn hq]
  exact deq_refl (hp q hq).h.1
section
variable {cf : CF} {env env' : Env} {r : List S} {Q : Fl → Prop}
theorem wp_setG {i : Nat} {k v : E} {n : List Nat} {x : α} (T : List (List Nat × α)) [l : Look env i (dicG f T)] (p : Ev cf env v (f x)) [p' : Ev cf env k (.str (tx n))] (hl : T.length < BIG) [q : SetE env i (dicG f (putG T n x)) env'] (w : Wp cf env' r Q) : Wp cf env (.setix i k v :: r) Q :=
  wp_step (fl := .nxt env') (by
    have hl' : (T.map (keyG f)).length < BIG := by rw [List.length_map]; exact hl
    rw [x_setD (show look env i = some (.dic (T.map (keyG f))) from l.h) p.h p'.h rfl hl', dput_dicG]
    exact congrArg (fun z => some (Fl.nxt z)) q.h) w
end
end
/-! big products -/
theorem log2_lt_of {n k : Nat} (h : n < 2 ^ k) (hk : 0 < k) : n.log2 < k := by
  by_cases e : n = 0
  · rw [e]; simpa using hk
  · exact (Nat.log2_lt e).mpr h
theorem mulOk_big {i j : Int} (hi : i.natAbs < 2 ^ 1000) (hj : j.natAbs < 2 ^ 1000) : mulOk i j = true := by
  have h1 := log2_lt_of hi (by decide)
  have h2 := log2_lt_of hj (by decide)
  unfold mulOk
  rw [Bool.or_eq_true]
  right
  exact decide_eq_true (by omega)
/-- numbers of less than a thousand bits -/
class Bg (i : Int) : Prop where h : i.natAbs < 2 ^ 1000
theorem bg_of {i : Int} (h0 : 0 ≤ i) {k : Int} (h : i ≤ k) (hk : k < 2 ^ 1000) : Bg i := ⟨by
  have e : ((2 : Int) ^ 1000).toNat = 2 ^ 1000 := by decide +kernel
  have : i < 2 ^ 1000 := Int.lt_of_le_of_lt h hk
  omega⟩
instance (priority := 300) mul_bg {i j : Int} [p : Bg i] [q : Bg j] : Sm2 .mul (.int i) (.int j) (.int (i * j)) := ⟨s_mul (mulOk_big p.h q.h)⟩
/-! texts turned about -/
theorem rev_tx (l : List Nat) : Txt.sliceBy (tx l) none none (-1, 0) = tx l.reverse := by
  have e1 := PyProof.Rows.step_rev_list (tx l) 0
  have gen : ∀ p q : Str, p.cps.toList = q.cps.toList → p = q := fun p q h => by
    have := Array.toList_inj.mp h
    cases p; cases q; exact congrArg _ this
  refine gen _ _ ?_
  rw [e1, tx_toList, tx_len]
  refine List.ext_getElem (by simp) fun i h1 h2 => ?_
  rw [List.length_map, List.length_range] at h1
  rw [List.getElem_map, List.getElem_range, List.getElem_reverse]
  have : (tx l).cps.getD (l.length - 1 - i) 0 = l.getD (l.length - 1 - i) 0 := by
    have e : (tx l).cps.toList = l := tx_toList l
    rw [Array.getD_eq_getD_getElem?, List.getD_eq_getElem?_getD, ← Array.getElem?_toList, e]
  rw [this, List.getD_eq_getElem?_getD, List.getElem?_eq_getElem (by omega), Option.getD_some]
instance ev_rev {cf : CF} {env : Env} {a : E} {l : List Nat} [p : Ev cf env a (.str (tx l))] [q : ShT l] : Ev cf env (.rev a) (.str (tx l.reverse)) := ⟨by
  rw [evalE, p.h]
  show (if (tx l).length ≤ BIG then some (D.str (Txt.sliceBy (tx l) none none (-1, 0))) else none) = _
  rw [if_pos (by rw [tx_len]; exact q.h), rev_tx]⟩
end PyI
end

section
set_option maxRecDepth 100000
set_option maxHeartbeats 4000000
namespace PyI
open PySem
def wor (A U : List Part) : Int := (A.map fun q => q.2 * gv U q.1).sum
theorem wor_nil {U : List Part} : wor [] U = 0 := rfl
theorem wor_cons {q : Part} {A U : List Part} : wor (q :: A) U = q.2 * gv U q.1 + wor A U := rfl
theorem wor_zero {A U : List Part} (h : ∀ n, gv U n = 0) : wor A U = 0 := by
  induction A with
  | nil => rfl
  | cons q r ih => rw [wor_cons, ih, h, Int.mul_zero]; rfl
theorem wor_one {A U : List Part} {m : List Nat} (hn : (nms A).Nodup) (h : ∀ n, gv U n = if n = m then 1 else 0) : wor A U = gv A m := by
  induction A with
  | nil => rfl
  | cons q r ih =>
    unfold nms at hn
    rw [List.map_cons, List.nodup_cons] at hn
    rw [wor_cons, ih hn.2, h, gv_cons]
    by_cases e : q.1 = m
    · rw [if_pos e, if_pos e, gv_none (by rw [← e]; exact hn.1), Int.mul_one, Int.add_zero]
    · rw [if_neg e, if_neg e, Int.mul_zero, Int.zero_add]
theorem wor_app (A B U : List Part) : wor (A ++ B) U = wor A U + wor B U := by
  unfold wor
  rw [List.map_append, List.sum_append]
theorem wor_perm {A B U : List Part} (h : A.Perm B) : wor A U = wor B U := by
  induction h with
  | nil => rfl
  | cons x _ ih => rw [wor_cons, wor_cons, ih]
  | swap x y l => rw [wor_cons, wor_cons, wor_cons, wor_cons]; omega
  | trans _ _ h1 h2 => exact h1.trans h2
theorem wor_put {T U : List Part} {n : List Nat} {v : Int} (hn : (nms T).Nodup) : wor (putT T n v) U = wor T U + (v - gv T n) * gv U n := by
  unfold putT
  split
  · rename_i h
    induction T with
    | nil => cases h
    | cons q r ih =>
      unfold nms at hn
      rw [List.map_cons, List.nodup_cons] at hn
      rw [List.map_cons, wor_cons, wor_cons, gv_cons]
      by_cases e : q.1 = n
      · rw [if_pos e, if_pos e]
        have : ∀ r : List Part, n ∉ r.map (·.1) → (r.map fun q => if q.1 = n then (q.1, v) else q) = r := by
          intro r hr
          refine (List.map_congr_left (g := id) fun x hx => ?_).trans (List.map_id _)
          exact if_neg fun z => hr (by rw [← z]; exact List.mem_map_of_mem hx)
        rw [this r (by rw [← e]; exact hn.1)]
        show v * gv U q.1 + wor r U = _
        rw [e, Int.sub_mul]; omega
      · rw [if_neg e, if_neg e]
        rw [List.any_cons, decide_eq_false e, Bool.false_or] at h
        rw [ih hn.2 h]; omega
  · rename_i h
    have : n ∉ nms T := fun hm => h (by
      obtain ⟨q, hq, e⟩ := List.mem_map.mp hm
      exact List.any_eq_true.mpr ⟨q, hq, decide_eq_true e⟩)
    rw [wor_app, gv_none this, wor_cons, wor_nil, Int.sub_zero, Int.add_zero]
theorem wor_add {T U : List Part} (L : List Part) (hn : (nms T).Nodup) : wor (addT T L) U = wor T U + wor L U := by
  induction L generalizing T with
  | nil => show wor T U = _; rw [wor_nil, Int.add_zero]
  | cons q r ih =>
    have : addT T (q :: r) = addT (putT T q.1 (gv T q.1 + q.2)) r := rfl
    rw [this, ih (putT_names hn), wor_put hn, wor_cons]
    have : gv T q.1 + q.2 - gv T q.1 = q.2 := by omega
    rw [this]; omega
theorem wor_made {T U : List Part} (hp : ∀ q ∈ T, 0 < q.2) : wor (madeL T) U = wor T U := by
  unfold madeL
  rw [List.filter_eq_self.mpr fun q hq => decide_eq_true (hp q hq)]
  exact wor_perm (List.mergeSort_perm _ _)
theorem wor_sum {A B U : List Part} (hA : Can A) (hB : Can B) : wor (sumL A B) U = wor A U + wor B U := by
  unfold sumL
  rw [wor_made (addT_pos hA.p hB.p), wor_add B hA.nd]
theorem wor_mul (L U : List Part) (t : Int) : wor (mulL L t) U = t * wor L U := by
  unfold mulL
  induction L with
  | nil => show (0 : Int) = t * 0; rw [Int.mul_zero]
  | cons q r ih =>
    rw [List.map_cons, wor_cons, wor_cons, ih, Int.mul_add]
    show q.2 * t * gv U q.1 + _ = _
    rw [Int.mul_comm q.2 t, Int.mul_assoc]
theorem wor_oft (L U : List Part) (t : Int) : wor (oftL L t) U = t * wor L U := by
  unfold oftL
  by_cases e : t = 0
  · rw [if_pos e, e, Int.zero_mul]; rfl
  · rw [if_neg e, wor_mul]
theorem gv_mul (L : List Part) (t : Int) (n : List Nat) : gv (mulL L t) n = t * gv L n := by
  unfold mulL
  induction L with
  | nil => show (0 : Int) = t * 0; rw [Int.mul_zero]
  | cons q r ih =>
    rw [List.map_cons, gv_cons, gv_cons]
    by_cases e : q.1 = n
    · rw [if_pos e, if_pos e, Int.mul_comm]
    · rw [if_neg e, if_neg e, ih]
theorem gv_oft (L : List Part) (t : Int) (n : List Nat) : gv (oftL L t) n = t * gv L n := by
  unfold oftL
  by_cases e : t = 0
  · rw [if_pos e, e, Int.zero_mul]; rfl
  · rw [if_neg e, gv_mul]
theorem oft_can {L : List Part} {t : Int} (h : Can L) (ht : 0 ≤ t) : Can (oftL L t) := by
  rw [← oft_made h ht]
  exact made_can (by rw [mulL_nms]; exact h.nd)
theorem oft_len (L : List Part) (t : Int) : (oftL L t).length ≤ L.length := by
  unfold oftL mulL
  split
  · exact Nat.zero_le _
  · rw [List.length_map]; exact Nat.le_refl _
section
variable {cf : CF}
theorem run_l_worth {a : Int} {A U : List Part} (la : A.length ≤ 4000) (hU : ∀ q ∈ A, mulOk q.2 (gv U q.1) = true) : runD cf f_l_worth [lenD a A, dicD U] = some (.int (a + wor A U), []) := by
  refine go_l_worth ?_
  have : LenB A := ⟨la⟩
  have : Ev cf [some (lenD a A), some (dicD U), none, none] c_l_worth_1 (.lst (A.map fun q => .int (q.2 * gv U q.1))) := ev_compM (e := partD) (fun q => .int (q.2 * gv U q.1)) fun q hq => by
    have : Sm2 .mul (.int q.2) (.int (gv U q.1)) (.int (q.2 * gv U q.1)) := ⟨s_mul (hU q hq)⟩
    exact ev_ok
  exact wp_ret rfl
/-- often, for great numbers too -/
theorem run_often_b {c n : Int} {L : List Part} (h0 : 0 ≤ n) (hn : mulOk c n = true) (hL : ∀ q ∈ L, mulOk q.2 n = true) (hl : L.length ≤ 4000) : runD cf f_often [lenD c L, .int n] = some (lenD (c * n) (oftL L n), []) := by
  refine go_often ?_
  unfold oftL
  by_cases e : n = 0
  · have : Tru (n = 0) := ⟨e⟩
    refine wp_ifT ?_
    refine wp_ret ?_
    show some _ = some _
    rw [if_pos e, e, Int.mul_zero]; rfl
  · have : Fls (n = 0) := ⟨e⟩
    have : LenB L := ⟨hl⟩
    refine wp_ifF ?_
    refine wp_nilT ?_
    have : Sm2 .mul (.int c) (.int n) (.int (c * n)) := ⟨s_mul hn⟩
    have : Ev cf [some (lenD c L), some (.int n), none, none] c_often_1 (.lst (L.map fun q => partD (q.1, q.2 * n))) := ev_compM (e := partD) (fun q => partD (q.1, q.2 * n)) fun q hq => by
      have : Sm2 .mul (.int q.2) (.int n) (.int (q.2 * n)) := ⟨s_mul (hL q hq)⟩
      exact ev_ok
    refine wp_ret ?_
    rw [if_neg e]
    show some (D.tup [_, .tup (L.map fun q => partD (q.1, q.2 * n))], _) = some (lenD (c * n) (mulL L n), _)
    unfold lenD mulL partsD
    rw [List.map_map]; rfl
end
end PyI
end

section
set_option maxRecDepth 100000
set_option maxHeartbeats 4000000
namespace PyI
open PySem
abbrev c_l_namesU_1 (i_l_mixed : Nat) : E := (.comp (.op2 .ix (.var 1) (.op2 .mod (.call i_l_mixed [(.var 0), (.op2 .add (.lit (.int 90)) (.var 5))]) (.lit (.int 26)))) (.name 5) .range [(.op2 .mod (.var 2) (.lit (.int 8)))] [])
abbrev c_l_namesU_2 : E := (.comp (.op2 .add (.op2 .add (.slice (.var 3) none (some (.var 4))) (.op2 .ix (.var 1) (.op2 .mod (.op2 .add (.op2 .fdiv (.var 2) (.lit (.int 72))) (.op2 .mul (.lit (.int 5)) (.var 5))) (.lit (.int 26))))) (.slice (.var 3) (some (.var 4)) none)) (.name 5) .range [(.lit (.int 5))] [])
def f_l_namesU (i_l_mixed : Nat) : FDef := { name := "_law_names", ps := ["_law_cell"], N := ["_law_cell", "_law_some", "_law_mixed_here", "_law_stem", "_law_at", "_law_k"], dfl := [], cls := [.F], io := [], fresh := false, body := [
  .asg 1 false (.lit (.str "abcdefghijklmnopqrstuvwxyz")),
  .asg 2 false (.call i_l_mixed [(.var 0), (.lit (.int 99))]),
  .asg 3 false (.op2 .join (.lit (.str "")) (c_l_namesU_1 i_l_mixed)),
  .asg 4 false (.op2 .mod (.op2 .fdiv (.var 2) (.lit (.int 8))) (.op2 .add (.op1 .len (.var 3)) (.lit (.int 1)))),
  .ret c_l_namesU_2] }
theorem go_l_namesU {cf : CF} {a0 : D} {x : D × List D} (i_l_mixed : Nat) (w : Wp cf [some a0, none, none, none, none, none] [
  .asg 1 false (.lit (.str "abcdefghijklmnopqrstuvwxyz")),
  .asg 2 false (.call i_l_mixed [(.var 0), (.lit (.int 99))]),
  .asg 3 false (.op2 .join (.lit (.str "")) (c_l_namesU_1 i_l_mixed)),
  .asg 4 false (.op2 .mod (.op2 .fdiv (.var 2) (.lit (.int 8))) (.op2 .add (.op1 .len (.var 3)) (.lit (.int 1)))),
  .ret c_l_namesU_2] (Ends [] x)) : runD cf (f_l_namesU i_l_mixed) [a0] = some x := run_wp rfl w
theorem ge_l_namesU {cf : CF} {a0 : D} {P : D × List D → Prop} (i_l_mixed : Nat) (w : Wp cf [some a0, none, none, none, none, none] [
  .asg 1 false (.lit (.str "abcdefghijklmnopqrstuvwxyz")),
  .asg 2 false (.call i_l_mixed [(.var 0), (.lit (.int 99))]),
  .asg 3 false (.op2 .join (.lit (.str "")) (c_l_namesU_1 i_l_mixed)),
  .asg 4 false (.op2 .mod (.op2 .fdiv (.var 2) (.lit (.int 8))) (.op2 .add (.op1 .len (.var 3)) (.lit (.int 1)))),
  .ret c_l_namesU_2] (fun fl => ∃ x, outF [] fl = some x ∧ P x)) : ∃ x, runD cf (f_l_namesU i_l_mixed) [a0] = some x ∧ P x := run_wpE rfl w
def nameU (c : Int) (k : Nat) : List Nat := ((stemOf c).take (atOf c) ++ [let26 (mixed c 99 / 72 + 5 * k)]) ++ (stemOf c).drop (atOf c)
def namesU (c : Int) : List (List Nat) := (List.range 5).map fun k => nameU c k
theorem nameU_ok (c : Int) (k : Nat) : nmOk (nameU c k) := by
  have h8 := stem_len c
  unfold nameU
  refine ⟨by simp; omega, by simp; omega, fun x hx => ?_⟩
  rw [List.mem_append, List.mem_append, List.mem_singleton] at hx
  rcases hx with (hx | rfl) | hx
  · exact stem_ok (List.mem_of_mem_take hx)
  · exact let26_ok _
  · exact stem_ok (List.mem_of_mem_drop hx)
theorem namesU_ok {c : Int} : ∀ l ∈ namesU c, nmOk l := by
  intro l hl
  unfold namesU at hl
  obtain ⟨k, _, rfl⟩ := List.mem_map.mp hl
  exact nameU_ok c k
theorem namesU_len (c : Int) : (namesU c).length = 5 := by unfold namesU; simp
section
variable {cf : CF}
theorem run_namesU {m : Nat} {c : Int} (hm : ∀ c k : Int, cf m [.int c, .int k] = some (.int (mixed c k), [])) : runD cf (f_l_namesU m) [.int c] = some (.lst ((namesU c).map fun l => .str (tx l)), []) := by
  refine go_l_namesU _ ?_
  have hcal : ∀ c k : Int, Cal cf m [.int c, .int k] (.int (mixed c k)) [] := fun c k => ⟨hm c k⟩
  have hl := stem_len c
  have hst : stemOf c = (List.range (mixed c 99 % 8).toNat).map fun (k : Nat) => let26 (mixed c (90 + (k : Int))) := rfl
  refine wp_asg ?_
  refine wp_asg ?_
  have l26 : ∀ i : Int, Sm2 .ix (.str (tx alpha)) (.int (i % 26)) (.str (tx [let26 i])) := fun i => ⟨s_let⟩
  have hB : Shrt ((List.range (mixed c 99 % 8).toNat).map fun (k : Nat) => D.int (k : Int)) := ⟨by rw [List.length_map, List.length_range]; unfold BIG; omega⟩
  have : Ev cf [some (.int c), some (.str (tx alpha)), some (.int (mixed c 99)), none, none, none] (.op2 .join (.lit (.str "")) (c_l_namesU_1 m)) (.str (tx (stemOf c))) := by
    have e1 : Ev cf [some (.int c), some (.str (tx alpha)), some (.int (mixed c 99)), none, none, none] (c_l_namesU_1 m) (.lst ((List.range (mixed c 99 % 8).toNat).map fun (k : Nat) => D.str (tx [let26 (mixed c (90 + (k : Int)))]))) :=
      ev_compM (e := fun (k : Nat) => D.int (k : Int)) (fun k => .str (tx [let26 (mixed c (90 + (k : Int)))])) fun k _ => ev_ok
    have stem : Sm2 .join (.str (tx [])) (.lst ((List.range (mixed c 99 % 8).toNat).map fun (k : Nat) => D.str (tx [let26 (mixed c (90 + (k : Int)))]))) (.str (tx (stemOf c))) := ⟨by
      have := s_join0 (L := (List.range (mixed c 99 % 8).toNat).map fun (k : Nat) => [let26 (mixed c (90 + (k : Int)))]) (by
        rw [List.map_map]
        have : (List.map (List.length ∘ fun (k : Nat) => [let26 (mixed c (90 + (k : Int)))]) (List.range (mixed c 99 % 8).toNat)) = (List.range (mixed c 99 % 8).toNat).map fun _ => 1 := List.map_congr_left fun _ _ => rfl
        rw [this, sum_ones]
        simp [BIG]
        omega)
      rw [List.map_map] at this
      have e : (List.map (fun (k : Nat) => [let26 (mixed c (90 + (k : Int)))]) (List.range (mixed c 99 % 8).toNat)).flatten = stemOf c := by
        rw [hst]
        generalize List.range (mixed c 99 % 8).toNat = l
        induction l with
        | nil => rfl
        | cons x r ih => simp [ih]
      rw [e] at this
      exact this⟩
    infer_instance
  refine wp_asg ?_
  clear this
  have : ShT (stemOf c) := ⟨by unfold BIG; omega⟩
  have : Sm2 .mod (.int (mixed c 99 / 8)) (.int ((stemOf c).length + 1)) (.int (atOf c)) := ⟨by
    rw [s_mod (by omega)]
    have := Int.emod_nonneg (mixed c 99 / 8) (show ((stemOf c).length + 1 : Int) ≠ 0 by omega)
    congr 2
    unfold atOf
    omega⟩
  refine wp_asg ?_
  have s1 : Sli (.str (tx (stemOf c))) none (some (atOf c : Int)) (.str (tx ((stemOf c).take (atOf c)))) := ⟨by
    rw [s_sliceS (by unfold BIG; omega), cutL_to _ (by omega)]; rfl⟩
  have s2 : Sli (.str (tx (stemOf c))) (some (atOf c : Int)) none (.str (tx ((stemOf c).drop (atOf c)))) := ⟨by
    rw [s_sliceS (by unfold BIG; omega), cutL_from _ (by omega)]; rfl⟩
  have : Dvs 72 := ⟨by decide, by decide⟩
  have : Ev cf [some (.int c), some (.str (tx alpha)), some (.int (mixed c 99)), some (.str (tx (stemOf c))), some (.int (atOf c)), none] c_l_namesU_2 (.lst ((namesU c).map fun l => .str (tx l))) := by
    unfold namesU
    rw [List.map_map]
    have : Shrt (List.map (fun (k : Nat) => D.int (k : Int)) (List.range 5)) := ⟨by decide⟩
    refine ev_compM (e := fun (k : Nat) => D.int (k : Int)) (fun k => .str (tx (nameU c k))) fun k _ => ?_
    have a1 : AddT ((stemOf c).take (atOf c)) [let26 (mixed c 99 / 72 + 5 * k)] := ⟨by simp [BIG]; omega⟩
    have a2 : AddT ((stemOf c).take (atOf c) ++ [let26 (mixed c 99 / 72 + 5 * k)]) ((stemOf c).drop (atOf c)) := ⟨by simp [BIG]; omega⟩
    exact ev_ok
  exact wp_ret rfl
end
end PyI
end

section
set_option maxRecDepth 100000
set_option maxHeartbeats 4000000
namespace PyI
open PySem
class EvX (cf : CF) (env : Env) (x : XE) (d : outParam D) (env' : outParam Env) : Prop where h : evalX cf x env = some (d, env')
class EvXs (cf : CF) (env : Env) (xs : List XE) (ds : outParam (List D)) (env' : outParam Env) : Prop where h : evalXs cf xs env = some (ds, env')
class MutD (d : D) : Prop where h : isMut d = true
class FilM (env : Env) (ms : List Md) (ds : List D) (ds' : outParam (List D)) : Prop where h : fillM env ms ds = some ds'
class IoM (ms : List Md) (os : List D) (is : outParam (List Nat)) (os' : outParam (List D)) : Prop where h : iosM ms = is ∧ outsM ms os = os'
instance {xs : List D} : MutD (.lst xs) := ⟨rfl⟩
instance {xs : List (Key × D)} : MutD (.dic xs) := ⟨rfl⟩
section
variable {cf : CF} {env e1 e2 e3 : Env}
instance : FilM env [] [] [] := ⟨rfl⟩
instance {ms : List Md} {d : D} {ds ds' : List D} [p : FilM env ms ds ds'] : FilM env (.v :: ms) (d :: ds) (d :: ds') := ⟨by rw [fillM, p.h]; rfl⟩
instance {ms : List Md} {i : Nat} {d x : D} {ds ds' : List D} [l : Look env i d] [m : MutD d] [p : FilM env ms ds ds'] : FilM env (.io i :: ms) (x :: ds) (d :: ds') := ⟨by rw [fillM, l.h]; simp only []; rw [if_pos m.h, p.h]; rfl⟩
instance {ms : List Md} {d : D} {ds ds' : List D} [m : MutD d] [p : FilM env ms ds ds'] : FilM env (.nw :: ms) (d :: ds) (d :: ds') := ⟨by rw [fillM, if_pos m.h, p.h]; rfl⟩
instance : IoM [] [] [] [] := ⟨rfl, rfl⟩
instance {ms : List Md} {os os' : List D} {is : List Nat} [p : IoM ms os is os'] : IoM (.v :: ms) os is os' := ⟨p.h.1, p.h.2⟩
instance {ms : List Md} {i : Nat} {o : D} {os os' : List D} {is : List Nat} [p : IoM ms os is os'] : IoM (.io i :: ms) (o :: os) (i :: is) (o :: os') := ⟨by rw [iosM, p.h.1], by rw [outsM, p.h.2]⟩
instance {ms : List Md} {o : D} {os os' : List D} {is : List Nat} [p : IoM ms os is os'] : IoM (.nw :: ms) (o :: os) is os' := ⟨p.h.1, p.h.2⟩
instance {e : E} {d : D} [p : Ev cf env e d] : EvX cf env (.p e) d env := ⟨by rw [evalX, p.h]⟩
instance {a : XE} {b c : Bool} [p : EvX cf env a (.bl b) e1] [q : NotB b c] : EvX cf env (.not_ a) (.bl c) e1 := ⟨by rw [evalX, p.h, ← q.h]⟩
instance {o : Op1} {a : XE} {x y : D} [p : EvX cf env a x e1] [q : Sm1 o x y] : EvX cf env (.o1 o a) y e1 := ⟨by rw [evalX, p.h]; simp only []; rw [q.h]⟩
instance {o : Op2} {a b : XE} {x y z : D} [p : EvX cf env a x e1] [p' : EvX cf e1 b y e2] [q : Sm2 o x y z] : EvX cf env (.o2 o a b) z e2 := ⟨by rw [evalX, p.h]; simp only []; rw [p'.h]; simp only []; rw [q.h]⟩
instance {es : List XE} {ds : List D} [p : EvXs cf env es ds e1] : EvX cf env (.tup es) (.tup ds) e1 := ⟨by rw [evalX, p.h]⟩
instance {es : List XE} {ds : List D} [p : EvXs cf env es ds e1] : EvX cf env (.lst es) (.lst ds) e1 := ⟨by rw [evalX, p.h]⟩
instance : EvXs cf env [] [] env := ⟨rfl⟩
instance {e : XE} {es : List XE} {x : D} {xs : List D} [p : EvX cf env e x e1] [q : EvXs cf e1 es xs e2] : EvXs cf env (e :: es) (x :: xs) e2 := ⟨by rw [evalXs, p.h]; simp only []; rw [q.h]⟩
instance (priority := 1100) evx_andF {a b : XE} [p : EvX cf env a (.bl false) e1] : EvX cf env (.and_ a b) (.bl false) e1 := ⟨by rw [evalX, p.h]⟩
instance (priority := 1090) evx_andT {a b : XE} {y : Bool} [p : EvX cf env a (.bl true) e1] [q : EvX cf e1 b (.bl y) e2] : EvX cf env (.and_ a b) (.bl y) e2 := ⟨by rw [evalX, p.h]; simp only []; rw [q.h]⟩
instance (priority := 1100) evx_orT {a b : XE} [p : EvX cf env a (.bl true) e1] : EvX cf env (.or_ a b) (.bl true) e1 := ⟨by rw [evalX, p.h]⟩
instance (priority := 1090) evx_orF {a b : XE} {y : Bool} [p : EvX cf env a (.bl false) e1] [q : EvX cf e1 b (.bl y) e2] : EvX cf env (.or_ a b) (.bl y) e2 := ⟨by rw [evalX, p.h]; simp only []; rw [q.h]⟩
instance {f : Nat} {args : List XE} {ms : List Md} {ds ds' os os' : List D} {is : List Nat} {d : D} [p : EvXs cf env args ds e1] [q : FilM e1 ms ds ds'] [c : Cal cf f ds' d os] [o : IoM ms os is os'] [s : SetA e1 is os' e2] : EvX cf env (.call f args ms) d e2 := ⟨by
  rw [evalX, p.h]; simp only []; rw [q.h]; simp only []; rw [c.h]; simp only []; rw [o.h.1, o.h.2, s.h.2]⟩
instance {i : Nat} {xs : List D} {x : D} [l : Look env i (.lst (xs ++ [x]))] [s : SetE env i (.lst xs) e1] : EvX cf env (.pop i) x e1 := ⟨by
  rw [evalX, l.h]
  simp only [List.length_append, List.length_cons, List.length_nil, Nat.zero_add, Nat.add_sub_cancel]
  rw [List.getElem?_append_right (Nat.le_refl _), Nat.sub_self]
  simp only [List.getElem?_cons_zero, List.dropLast_concat]
  rw [s.h]⟩
end
/-! what the statements do -/
section
variable {cf : CF} {env : Env} {i : Nat} {x : XE}
theorem q_xasg {o : Bool} : execS cf env (.xasg i o x) = (match evalX cf x env with
    | some (d, e1) => some (.nxt (e1.set i (some d)))
    | none => none) := rfl
theorem q_xasgT {is : List Nat} : execS cf env (.xasgT is x) = (match evalX cf x env with
    | some (d, e1) => (match bindT (.tup is) d e1 with
      | some env' => some (.nxt env')
      | none => none)
    | none => none) := rfl
theorem q_xret : execS cf env (.xret x) = (match evalX cf x env with
    | some (d, e1) => some (.ret d e1)
    | none => none) := rfl
theorem q_xexpr : execS cf env (.xexpr x) = (match evalX cf x env with
    | some (_, e1) => some (.nxt e1)
    | none => none) := rfl
theorem q_xif {a b : List S} : execS cf env (.xif x a b) = (match evalX cf x env with
    | some (.bl true, e1) => execSs cf e1 a
    | some (.bl false, e1) => execSs cf e1 b
    | _ => none) := rfl
theorem q_xapp : execS cf env (.xapp i x) = (if isLst (look env i) = true then (match evalX cf x env with
    | some (d, e1) => (match look e1 i with
      | some (.lst xs) => if xs.length < BIG then some (.nxt (e1.set i (some (.lst (xs ++ [d]))))) else none
      | _ => none)
    | none => none) else none) := rfl
theorem q_xsetD {k : E} {d kd : D} {e1 : Env} {kvs : List (Key × D)} {key : Key} (h1 : evalX cf x env = some (d, e1)) (h2 : look e1 i = some (.dic kvs)) (h3 : evalE cf e1 k = some kd) (h4 : keyOf kd = some key) (h5 : kvs.length < BIG) : execS cf env (.xset i k x) = some (.nxt (e1.set i (some (.dic (dput kvs key d))))) := by
  have : execS cf env (.xset i k x) = execS cf e1 (.setix i k (.lit d)) := by
    show (match evalX cf x env with | some (d, e1) => _ | none => none) = _
    rw [h1]; rfl
  rw [this, x_setD h2 rfl h3 h4 h5]
theorem q_xfor {tg : Tg} {body : List S} : execS cf env (.xfor tg x body) = (match evalX cf x env with
    | some (y, e1) => (match iterD .range [y] with
      | some xs => forL (fun env x => match bindT tg x env with
        | some env' => execSs cf env' body
        | none => none) e1 xs
      | none => none)
    | none => none) := rfl
theorem q_ext {e : E} : execS cf env (.ext i e) = (match look env i with
    | some (.lst xs) => (match evalE cf env e with
      | some (.lst ys) => if xs.length + ys.length ≤ BIG then some (.nxt (env.set i (some (.lst (xs ++ ys))))) else none
      | _ => none)
    | _ => none) := rfl
theorem q_clr : execS cf env (.clr i) = (match look env i with
    | some (.lst _) => some (.nxt (env.set i (some (.lst []))))
    | some (.dic _) => some (.nxt (env.set i (some (.dic []))))
    | _ => none) := rfl
theorem q_while {c : E} {body : List S} : execS cf env (.while_ c body) = whileL (fun env => boolOf (evalE cf env c)) (fun env => execSs cf env body) WF env := rfl
theorem q_setL {k v : E} {xs : List D} {d : D} {j : Int} {n : Nat} (h1 : evalE cf env v = some d) (h2 : look env i = some (.lst xs)) (h3 : evalE cf env k = some (.int j)) (h4 : L2.ixN xs.length j = some n) : execS cf env (.setix i k v) = some (.nxt (env.set i (some (.lst (xs.set n d))))) := by
  simp only [execS, h1, h2, h3, h4]
end
/-! statements -/
section
variable {cf : CF} {env env' e1 : Env} {r : List S} {Q : Fl → Prop}
theorem wp_xasg {i : Nat} {o : Bool} {x : XE} {d : D} [p : EvX cf env x d e1] [q : SetE e1 i d env'] (k : Wp cf env' r Q) : Wp cf env (.xasg i o x :: r) Q :=
  wp_step (fl := .nxt env') (by rw [q_xasg, p.h]; simp only []; rw [q.h]) k
theorem wp_xasgT {is : List Nat} {x : XE} {d : D} [p : EvX cf env x d e1] [q : Bnd (.tup is) d e1 env'] (k : Wp cf env' r Q) : Wp cf env (.xasgT is x :: r) Q :=
  wp_step (fl := .nxt env') (by rw [q_xasgT, p.h]; simp only []; rw [q.h]) k
theorem wp_xret {x : XE} {d : D} [p : EvX cf env x d e1] (k : Q (.ret d e1)) : Wp cf env (.xret x :: r) Q :=
  wp_step (fl := .ret d e1) (by rw [q_xret, p.h]) k
theorem wp_xexpr {x : XE} {d : D} [p : EvX cf env x d e1] (k : Wp cf e1 r Q) : Wp cf env (.xexpr x :: r) Q :=
  wp_step (fl := .nxt e1) (by rw [q_xexpr, p.h]) k
theorem thn_ofX {ss : List S} (h : Wp cf e1 ss (Thn cf r Q)) {s : S} (e : execS cf env s = execSs cf e1 ss) : Wp cf env (s :: r) Q := by
  obtain ⟨fl, h1, h2⟩ := h
  exact wp_step (fl := fl) (by rw [e, h1]) (by cases fl <;> exact h2)
theorem wp_xifT {c : XE} {a b : List S} [p : EvX cf env c (.bl true) e1] (k : Wp cf e1 a (Thn cf r Q)) : Wp cf env (.xif c a b :: r) Q :=
  thn_ofX k (by rw [q_xif, p.h])
theorem wp_xifF {c : XE} {a b : List S} [p : EvX cf env c (.bl false) e1] (k : Wp cf e1 b (Thn cf r Q)) : Wp cf env (.xif c a b :: r) Q :=
  thn_ofX k (by rw [q_xif, p.h])
theorem wp_xif {c : XE} {a b : List S} {x : Bool} [p : EvX cf env c (.bl x) e1] (k : x = true → Wp cf e1 a (Thn cf r Q)) (k' : x = false → Wp cf e1 b (Thn cf r Q)) : Wp cf env (.xif c a b :: r) Q := by
  cases x with
  | true => exact wp_xifT (k rfl)
  | false => exact wp_xifF (k' rfl)
/-- conditions cut up -/
theorem wp_xif_or {x y : XE} {a b : List S} {k : Bool} [p : EvX cf env x (.bl k) e1] (h1 : k = true → Wp cf e1 a (Thn cf r Q)) (h2 : k = false → Wp cf e1 (.xif y a b :: r) Q) : Wp cf env (.xif (.or_ x y) a b :: r) Q := by
  cases k with
  | true => exact thn_ofX (h1 rfl) (by rw [q_xif, evalX, p.h])
  | false =>
    obtain ⟨fl, q1, q2⟩ := h2 rfl
    refine ⟨fl, ?_, q2⟩
    rw [xs_cons] at q1 ⊢
    rw [← q1]
    congr 1
    rw [q_xif, q_xif, evalX, p.h]
    simp only []
    cases evalX cf y e1 with
    | none => rfl
    | some z => obtain ⟨z, e⟩ := z; cases z with
      | bl q => cases q <;> rfl
      | _ => rfl
theorem wp_xif_and {x y : XE} {a b : List S} {k : Bool} [p : EvX cf env x (.bl k) e1] (h1 : k = false → Wp cf e1 b (Thn cf r Q)) (h2 : k = true → Wp cf e1 (.xif y a b :: r) Q) : Wp cf env (.xif (.and_ x y) a b :: r) Q := by
  cases k with
  | false => exact thn_ofX (h1 rfl) (by rw [q_xif, evalX, p.h])
  | true =>
    obtain ⟨fl, q1, q2⟩ := h2 rfl
    refine ⟨fl, ?_, q2⟩
    rw [xs_cons] at q1 ⊢
    rw [← q1]
    congr 1
    rw [q_xif, q_xif, evalX, p.h]
    simp only []
    cases evalX cf y e1 with
    | none => rfl
    | some z => obtain ⟨z, e⟩ := z; cases z with
      | bl q => cases q <;> rfl
      | _ => rfl
theorem wp_xapp {i : Nat} {x : XE} {xs0 xs : List D} {d : D} [l0 : Look env i (.lst xs0)] [p : EvX cf env x d e1] [l : Look e1 i (.lst xs)] [q : SetE e1 i (.lst (xs ++ [d])) env'] (hl : xs.length < BIG) (k : Wp cf env' r Q) : Wp cf env (.xapp i x :: r) Q :=
  wp_step (fl := .nxt env') (by rw [q_xapp, l0.h]; simp only [isLst, if_true]; rw [p.h]; simp only []; rw [l.h]; simp only []; rw [if_pos hl, q.h]) k
theorem wp_xsetD {i : Nat} {k : E} {x : XE} {kvs : List (Key × D)} {d kd : D} {key : Key} [p : EvX cf env x d e1] [l : Look e1 i (.dic kvs)] [p' : Ev cf e1 k kd] (hk : keyOf kd = some key) (hl : kvs.length < BIG) [q : SetE e1 i (.dic (dput kvs key d)) env'] (w : Wp cf env' r Q) : Wp cf env (.xset i k x :: r) Q :=
  wp_step (fl := .nxt env') (by rw [q_xsetD p.h l.h p'.h hk hl, q.h]) w
theorem wp_setL {i : Nat} {k v : E} {xs : List D} {d : D} {j : Int} {n : Nat} [p : Ev cf env v d] [l : Look env i (.lst xs)] [p' : Ev cf env k (.int j)] (hj : L2.ixN xs.length j = some n) [q : SetE env i (.lst (xs.set n d)) env'] (w : Wp cf env' r Q) : Wp cf env (.setix i k v :: r) Q :=
  wp_step (fl := .nxt env') (by rw [q_setL p.h l.h p'.h hj, q.h]) w
theorem wp_ext {i : Nat} {e : E} {xs ys : List D} [l : Look env i (.lst xs)] [p : Ev cf env e (.lst ys)] [q : SetE env i (.lst (xs ++ ys)) env'] (hl : xs.length + ys.length ≤ BIG) (k : Wp cf env' r Q) : Wp cf env (.ext i e :: r) Q :=
  wp_step (fl := .nxt env') (by rw [q_ext, l.h]; simp only []; rw [p.h]; simp only []; rw [if_pos hl, q.h]) k
theorem wp_clrD {i : Nat} {xs : List (Key × D)} [l : Look env i (.dic xs)] [q : SetE env i (.dic []) env'] (k : Wp cf env' r Q) : Wp cf env (.clr i :: r) Q :=
  wp_step (fl := .nxt env') (by rw [q_clr, l.h]; simp only []; rw [q.h]) k
theorem wp_clr {i : Nat} {xs : List D} [l : Look env i (.lst xs)] [q : SetE env i (.lst []) env'] (k : Wp cf env' r Q) : Wp cf env (.clr i :: r) Q :=
  wp_step (fl := .nxt env') (by rw [q_clr, l.h]; simp only []; rw [q.h]) k
theorem wp_xfor {α : Type} {enc : α → D} {L : List α} {tg : Tg} {x : XE} {y : D} {body : List S} (J : List α → Env → Prop) [p : EvX cf env x y e1] [q : Itr .range [y] (L.map enc)] (h0 : J [] e1)
    (hs : ∀ pre a post e, pre ++ a :: post = L → J pre e → ∃ e', bindT tg (enc a) e = some e' ∧ Wp cf e' body (Lp (J (pre ++ [a])) cf r Q)) (hk : ∀ e, J L e → Wp cf e r Q) : Wp cf env (.xfor tg x body :: r) Q := by
  obtain ⟨fl, h1, h2⟩ := forL_wp hs L [] e1 rfl h0 hk
  refine wp_step (fl := fl) ?_ h2
  rw [q_xfor, p.h]
  simp only []
  rw [q.h]
  have e : (fun (env : Env) x => match bindT tg x env with | some env' => execSs cf env' body | none => none) = stepF cf tg body := by
    funext env x; unfold stepF; cases bindT tg x env <;> rfl
  show forL _ _ _ = _
  rw [e]; exact h1
theorem q_xforl {tg : Tg} {x : XE} {body : List S} : execS cf env (.xforl tg x body) = (match evalX cf x env with
    | some (y, e1) => (match iterD .of [y] with
      | some xs => forL (fun env x => match bindT tg x env with
        | some env' => execSs cf env' body
        | none => none) e1 xs
      | none => none)
    | none => none) := rfl
theorem wp_xforl {α : Type} {enc : α → D} {L : List α} {tg : Tg} {x : XE} {ys : List D} {body : List S} (J : List α → Env → Prop) [p : EvX cf env x (.lst ys) e1] (hy : ys = L.map enc) (h0 : J [] e1)
    (hs : ∀ pre a post e, pre ++ a :: post = L → J pre e → ∃ e', bindT tg (enc a) e = some e' ∧ Wp cf e' body (Lp (J (pre ++ [a])) cf r Q)) (hk : ∀ e, J L e → Wp cf e r Q) : Wp cf env (.xforl tg x body :: r) Q := by
  obtain ⟨fl, h1, h2⟩ := forL_wp hs L [] e1 rfl h0 hk
  refine wp_step (fl := fl) ?_ h2
  rw [q_xforl, p.h]
  have e : (fun (env : Env) x => match bindT tg x env with | some env' => execSs cf env' body | none => none) = stepF cf tg body := by
    funext env x; unfold stepF; cases bindT tg x env <;> rfl
  show forL _ _ ys = _
  rw [e, hy]; exact h1
theorem evx_compx {e0 : Env} {elt : XE} {tg : Tg} {x : XE} {xs ys : List D} [p : EvX cf env x (.lst xs) e0] (hl : xs.length ≤ BIG) (h : cmpX (evalX cf elt) tg e0 xs = some (ys, e1)) : EvX cf env (.compx elt tg x) (.lst ys) e1 := ⟨by
  rw [evalX, p.h]
  show (if xs.length ≤ BIG then match cmpX (evalX cf elt) tg e0 xs with | some (ys, e1) => some (D.lst ys, e1) | none => none else none) = _
  rw [if_pos hl, h]⟩
theorem cmpX_map {α : Type} {enc g : α → D} {elt : XE} {tg : Tg} {e0 : Env} : ∀ L : List α, (∀ a ∈ L, ∃ ea, bindT tg (enc a) e0 = some ea ∧ evalX cf elt ea = some (g a, ea) ∧ restT e0 ea (ixT tg) = e0) → cmpX (evalX cf elt) tg e0 (L.map enc) = some (L.map g, e0)
  | [], _ => rfl
  | a :: r, h => by
    obtain ⟨ea, h1, h2, h3⟩ := h a List.mem_cons_self
    rw [List.map_cons, cmpX, h1]
    simp only []
    rw [h2]
    simp only []
    rw [h3, cmpX_map r fun b hb => h b (List.mem_cons_of_mem _ hb)]
    rfl
/-- a loop that ends: what holds, with how many turns are left -/
theorem whileL_wp {c : E} {body : List S} {J : Nat → Env → Prop} (hs : ∀ n e, J n e → ∃ b, evalE cf e c = some (.bl b) ∧ (b = true → Wp cf e body (Lp (fun e' => ∃ m, m < n ∧ J m e') cf r Q)) ∧ (b = false → Wp cf e r Q)) :
    ∀ (f n : Nat) (e : Env), n < f → J n e → ∃ fl, whileL (fun env => boolOf (evalE cf env c)) (fun env => execSs cf env body) f e = some fl ∧ Thn cf r Q fl := by
  intro f
  induction f with
  | zero => intro n e h; omega
  | succ f ih =>
    intro n e hn hj
    obtain ⟨b, h1, h2, h3⟩ := hs n e hj
    rw [whileL, h1]
    cases b with
    | false => exact ⟨.nxt e, rfl, h3 rfl⟩
    | true =>
      simp only [boolOf]
      obtain ⟨fl, q1, q2⟩ := h2 rfl
      rw [q1]
      cases fl with
      | nxt e2 => obtain ⟨m, hm, hj'⟩ := q2; exact ih m e2 (by omega) hj'
      | cnt e2 => obtain ⟨m, hm, hj'⟩ := q2; exact ih m e2 (by omega) hj'
      | brk e2 => exact ⟨.nxt e2, rfl, q2⟩
      | ret d e2 => exact ⟨.ret d e2, rfl, q2⟩
theorem wp_while {c : E} {body : List S} (J : Nat → Env → Prop) (n : Nat) (hn : n < WF) (h0 : J n env) (hs : ∀ n e, J n e → ∃ b, evalE cf e c = some (.bl b) ∧ (b = true → Wp cf e body (Lp (fun e' => ∃ m, m < n ∧ J m e') cf r Q)) ∧ (b = false → Wp cf e r Q)) : Wp cf env (.while_ c body :: r) Q := by
  obtain ⟨fl, h1, h2⟩ := whileL_wp hs WF n env hn h0
  exact wp_step (fl := fl) (by rw [q_while]; exact h1) h2
end
end PyI
end

section
set_option maxRecDepth 100000
set_option maxHeartbeats 4000000
namespace PyI
open PySem
abbrev c_parting_1 : E := (.comp (.var 4) (.name 4) .keys [(.var 2)] [(.op2 .ne (.get2 (.op1 .dict_ (.op2 .ix (.var 0) (.lit (.int 1)))) (.var 4) (.lit (.int 0))) (.get2 (.op1 .dict_ (.op2 .ix (.var 1) (.lit (.int 1)))) (.var 4) (.lit (.int 0))))])
def f_parting (i_noughts : Nat) : FDef := { name := "parting", ps := ["a", "b"], N := ["a", "b", "found", "unlike", "name"], dfl := [], cls := [.F, .F], io := [], fresh := false, body := [
  .iff (.op2 .eq (.var 0) (.var 1)) [.ret (.lit (.non))] [],
  .asg 2 true (.call i_noughts [(.var 0), (.var 1)]),
  .iff (.op2 .eq (.op2 .ix (.var 0) (.lit (.int 0))) (.op2 .ix (.var 1) (.lit (.int 0)))) [.asg 3 false c_parting_1, .setix 2 (.op2 .ix (.var 3) (.lit (.int 0))) (.lit (.int 1))] [],
  .frz 2,
  .ret (.var 2)] }
theorem go_parting {cf : CF} {a0 a1 : D} {x : D × List D} (i_noughts : Nat) (w : Wp cf [some a0, some a1, none, none, none] [
  .iff (.op2 .eq (.var 0) (.var 1)) [.ret (.lit (.non))] [],
  .asg 2 true (.call i_noughts [(.var 0), (.var 1)]),
  .iff (.op2 .eq (.op2 .ix (.var 0) (.lit (.int 0))) (.op2 .ix (.var 1) (.lit (.int 0)))) [.asg 3 false c_parting_1, .setix 2 (.op2 .ix (.var 3) (.lit (.int 0))) (.lit (.int 1))] [],
  .frz 2,
  .ret (.var 2)] (Ends [] x)) : runD cf (f_parting i_noughts) [a0, a1] = some x := run_wp rfl w
theorem ge_parting {cf : CF} {a0 a1 : D} {P : D × List D → Prop} (i_noughts : Nat) (w : Wp cf [some a0, some a1, none, none, none] [
  .iff (.op2 .eq (.var 0) (.var 1)) [.ret (.lit (.non))] [],
  .asg 2 true (.call i_noughts [(.var 0), (.var 1)]),
  .iff (.op2 .eq (.op2 .ix (.var 0) (.lit (.int 0))) (.op2 .ix (.var 1) (.lit (.int 0)))) [.asg 3 false c_parting_1, .setix 2 (.op2 .ix (.var 3) (.lit (.int 0))) (.lit (.int 1))] [],
  .frz 2,
  .ret (.var 2)] (fun fl => ∃ x, outF [] fl = some x ∧ P x)) : ∃ x, runD cf (f_parting i_noughts) [a0, a1] = some x ∧ P x := run_wpE rfl w
end PyI
end

section
set_option maxRecDepth 100000
set_option maxHeartbeats 4000000
namespace PyI
open PySem
/-! dicts of whole numbers, compared -/
theorem eq_dic {T U : List Part} (hT : (nms T).Nodup) (hU : (nms U).Nodup) (hn : ∀ n, n ∈ nms T ↔ n ∈ nms U) (hg : ∀ n, gv T n = gv U n) : eqSem (dicD T) (dicD U) = some true := by
  have pl : ∀ T : List Part, ((T.map keyQ).all fun kv => plainD kv.2) = true := fun T => by
    rw [List.all_eq_true]
    intro x hx
    obtain ⟨q, _, rfl⟩ := List.mem_map.mp hx
    rfl
  have dp : ((T.map keyQ).all fun kv => decide ((toPy kv.2).depth ≤ 100)) = true := by
    rw [List.all_eq_true]
    intro x hx
    obtain ⟨q, _, rfl⟩ := List.mem_map.mp hx
    rfl
  have hl : T.length = U.length := by
    have := ((List.perm_ext_iff_of_nodup hT hU).mpr hn).length_eq
    unfold nms at this
    rwa [List.length_map, List.length_map] at this
  show (if (((T.map keyQ).all fun kv => plainD kv.2) && ((U.map keyQ).all fun kv => plainD kv.2) && ((T.map keyQ).all fun kv => decide ((toPy kv.2).depth ≤ 100))) = true then some (dicEq (T.map keyQ) (U.map keyQ)) else none) = _
  rw [pl, pl, dp]
  refine (if_pos rfl).trans ?_
  congr 1
  unfold dicEq
  rw [List.length_map, List.length_map, hl, beq_self_eq_true, Bool.true_and, List.all_eq_true]
  intro x hx
  obtain ⟨q, hq, rfl⟩ := List.mem_map.mp hx
  show (match dget (U.map keyQ) (.inr (tx q.1)) with | some y => deq (.int q.2) y | none => false) = true
  rw [dget_gv, if_pos ((hn q.1).mp (List.mem_map_of_mem hq)), ← hg, gv_mem hT hq]
  show (q.2 == q.2) = true
  simp
def Unl (A B : List Part) (n : List Nat) : Prop := gv A n ≠ gv B n
def MinU (A B : List Part) (m : List Nat) : Prop := Unl A B m ∧ ∀ n, Unl A B n → ¬ n < m
theorem MinU.uniq {A B : List Part} {m k : List Nat} (h : MinU A B m) (h' : MinU A B k) : m = k :=
  List.le_antisymm (List.not_lt.mp (h.2 k h'.1)) (List.not_lt.mp (h'.2 m h.1))
theorem MinU.symm {A B : List Part} {m : List Nat} (h : MinU A B m) : MinU B A m := ⟨fun e => h.1 e.symm, fun n hn => h.2 n fun e => hn e.symm⟩
structure DueS (a b : Int) (A B T : List Part) : Prop where
  nd : (nms T).Nodup
  ln : T.length ≤ 1000
  mem : ∀ n, n ∈ nms T ↔ n ∈ nms A ∨ n ∈ nms B
  val : (a ≠ b ∧ ∀ n, gv T n = 0) ∨ (a = b ∧ ∃ m, MinU A B m ∧ ∀ n, gv T n = if n = m then 1 else 0)
theorem DueS.symm {a b : Int} {A B T : List Part} (h : DueS a b A B T) : DueS b a B A T :=
  ⟨h.nd, h.ln, fun n => (h.mem n).trans Or.comm, h.val.elim (fun ⟨x, y⟩ => .inl ⟨fun e => x e.symm, y⟩) fun ⟨x, m, y, z⟩ => .inr ⟨x.symm, m, y.symm, z⟩⟩
theorem DueS.eq {a b : Int} {A B T U : List Part} (h : DueS a b A B T) (h' : DueS a b A B U) : eqSem (dicD T) (dicD U) = some true := by
  refine eq_dic h.nd h'.nd (fun n => (h.mem n).trans (h'.mem n).symm) fun n => ?_
  rcases h.val with ⟨x, y⟩ | ⟨x, m, y, z⟩
  · rcases h'.val with ⟨_, y'⟩ | ⟨x', _⟩
    · rw [y, y']
    · exact absurd x' x
  · rcases h'.val with ⟨x', _⟩ | ⟨_, m', y', z'⟩
    · exact absurd x x'
    · rw [z, z', y.uniq y']
theorem nou_gv0 (l : List (List Nat)) (n : List Nat) : gv (nouT l) n = 0 := by
  rcases gv_cases (nou_nd l) n with ⟨q, hq, _, e⟩ | ⟨_, e⟩
  · rw [e, nou_zero l q hq]
  · exact e
theorem unl_in {A B : List Part} {n : List Nat} (h : Unl A B n) : n ∈ nms A ∨ n ∈ nms B := by
  by_cases c : n ∈ nms A
  · exact .inl c
  · by_cases d : n ∈ nms B
    · exact .inr d
    · exact absurd (by rw [gv_none c, gv_none d]) h
/-- noughts of names, one of them at 1 -/
theorem due_put {a : Int} {A B : List Part} {l : List (List Nat)} {m : List Nat} (hl : ∀ n, n ∈ l ↔ n ∈ nms A ∨ n ∈ nms B) (h1 : l.length ≤ 900) (hm : MinU A B m) : DueS a a A B (putT (nouT l) m 1) := by
  have hin : m ∈ nms (nouT l) := by rw [nou_mem, hl]; exact unl_in hm.1
  refine ⟨putT_names (nou_nd l), ?_, fun n => ?_, .inr ⟨rfl, m, hm, fun n => by rw [gv_put, nou_gv0]⟩⟩
  · have := putT_len (nouT l) m 1
    have := nou_len l
    omega
  · rw [put_nms, if_pos hin, nou_mem, hl]
theorem due_zero {a b : Int} {A B : List Part} {l : List (List Nat)} (hl : ∀ n, n ∈ l ↔ n ∈ nms A ∨ n ∈ nms B) (h1 : l.length ≤ 900) (h : a ≠ b) : DueS a b A B (nouT l) :=
  ⟨nou_nd l, by have := nou_len l; omega, fun n => by rw [nou_mem, hl], .inl ⟨h, nou_gv0 l⟩⟩
theorem nou_sorted : ∀ l : List (List Nat), l.Pairwise (fun x y => ¬ y < x) → (nms (nouT l)).Pairwise fun x y => ¬ y < x := by
  refine snoc_ind (fun _ => .nil) fun l a ih h => ?_
  rw [List.pairwise_append] at h
  rw [nou_snoc, put_nms]
  split
  · exact ih h.1
  · rw [List.pairwise_append]
    refine ⟨ih h.1, List.pairwise_singleton _ _, fun x hx y hy => ?_⟩
    exact h.2.2 x ((nou_mem l x).mp hx) y hy
theorem sort_sorted (l : List (List Nat)) : (l.mergeSort strLe).Pairwise fun x y => ¬ y < x :=
  (List.pairwise_mergeSort strLe_trans strLe_total l).imp fun {a b} h => by
    rw [strLe_eq, Bool.not_eq_true', decide_eq_false_iff_not] at h
    exact h
/-! sorted(set(names)) -/
theorem sort_done {l : List (List Nat)} (h : l.Pairwise fun x y => ¬ y < x) : l.mergeSort strLe = l := by
  refine List.mergeSort_of_pairwise ?_
  exact h.imp fun {a b} z => by rw [strLe_eq, Bool.not_eq_true', decide_eq_false_iff_not]; exact z
theorem ssort_names {l N : List (List Nat)} (nd : N.Nodup) (hs : N.Pairwise fun x y => ¬ y < x) (hm : ∀ n, n ∈ N ↔ n ∈ l) (hl : l.length < 4000) : sem1 .ssort (.lst (strsD' l)) = some (.lst (strsD' N)) := by
  have e : strsD' l = (l.map tx).map D.str := by unfold strsD'; rw [List.map_map]; rfl
  show (match strsD (strsD' l) with
    | some ss => if ss.length < 4000 then some (D.lst (((uqS ss).map D.str).mergeSort (PySem.W.dataLe false toPy))) else none
    | none => none) = _
  rw [e, strsD_map]
  show (if (l.map tx).length < 4000 then _ else _) = _
  rw [if_pos (by rw [List.length_map]; exact hl)]
  have nd' : (N.map tx).Nodup := by
    rw [List.nodup_iff_pairwise_ne, List.pairwise_map]
    exact (List.nodup_iff_pairwise_ne.mp nd).imp fun z q => z (tx_inj q)
  rw [← sort_uq nd' (ss := l.map tx) fun k => by
    rw [List.mem_map, List.mem_map]
    exact ⟨fun ⟨a, h, q⟩ => ⟨a, (hm a).1 h, q⟩, fun ⟨a, h, q⟩ => ⟨a, (hm a).2 h, q⟩⟩]
  have e2 : (N.map tx).map D.str = strsD' N := by unfold strsD'; rw [List.map_map]; rfl
  rw [e2]
  have h1 := sortD_strs N
  unfold sortD at h1
  rw [if_pos (sortOk_strs N)] at h1
  rw [Option.some.inj h1, sort_done hs]
theorem sorted_dicN (T : List Part) : sem1 .sorted_ (dicD T) = some (.lst (strsD' ((nms T).mergeSort strLe))) := by
  show (sortD ((T.map keyQ).map fun kv => ofKey kv.1)).map D.lst = _
  have e : ((T.map keyQ).map fun kv => ofKey kv.1) = strsD' (nms T) := by unfold strsD' nms; rw [List.map_map, List.map_map]; rfl
  rw [e, sortD_strs]; rfl
theorem nouAB_srt (A B : List Part) : (nms (nouAB A B)).Pairwise fun x y => ¬ y < x := nou_sorted _ (sort_sorted (nms A ++ nms B))
theorem nouAB_nd (A B : List Part) : (nms (nouAB A B)).Nodup := nou_nd _
theorem ssortAB {A B : List Part} (h : A.length + B.length < 4000) : sem1 .ssort (.lst ((A ++ B).map fun q => D.str (tx q.1))) = some (.lst (strsD' (nms (nouAB A B)))) := by
  have e : ((A ++ B).map fun q => D.str (tx q.1)) = strsD' (nms A ++ nms B) := by unfold strsD' nms; rw [List.map_append, List.map_append, List.map_map, List.map_map]; rfl
  rw [e]
  exact ssort_names (nouAB_nd A B) (nouAB_srt A B) (fun n => by rw [nouAB_mem, List.mem_append]) (by unfold nms; rw [List.length_append, List.length_map, List.length_map]; exact h)
section
variable {cf : CF}
theorem run_parting {i : Nat} {a b : Int} {A B : List Part} (hA : Can A) (hB : Can B) (la : A.length ≤ 400) (lb : B.length ≤ 400) (hn : cf i [lenD a A, lenD b B] = some (dicD (nouAB A B), [])) :
    ∃ x, runD cf (f_parting i) [lenD a A, lenD b B] = some x ∧ ((a = b ∧ A = B ∧ x = (.non, [])) ∨ (¬ (a = b ∧ A = B) ∧ ∃ T, x = (dicD T, []) ∧ DueS a b A B T)) := by
  refine ge_parting _ ?_
  have : NdP A := ⟨hA.nd⟩
  have : NdP B := ⟨hB.nd⟩
  have hlen := nouAB_len A B
  have : LenB (nouAB A B) := ⟨by omega⟩
  refine wp_if (fun h => ?_) (fun h => ?_)
  · have := of_decide_eq_true h
    exact wp_ret ⟨_, outF_ret, .inl ⟨this.1, this.2, rfl⟩⟩
  refine wp_nilT ?_
  have hne := of_decide_eq_false h
  have : Cal cf i [lenD a A, lenD b B] (dicD (nouAB A B)) [] := ⟨hn⟩
  refine wp_asg ?_
  have hmem : ∀ n, n ∈ (nms A ++ nms B).mergeSort strLe ↔ n ∈ nms A ∨ n ∈ nms B := fun n => by rw [List.mem_mergeSort, List.mem_append]
  have h900 : ((nms A ++ nms B).mergeSort strLe).length ≤ 900 := by
    rw [List.length_mergeSort, List.length_append]
    unfold nms
    rw [List.length_map, List.length_map]; omega
  refine wp_if (fun h2 => ?_) (fun h2 => ?_)
  · have hab := of_decide_eq_true h2
    subst hab
    have hAB : A ≠ B := fun e => hne ⟨rfl, e⟩
    have : Ev cf [some (lenD a A), some (lenD a B), some (dicD (nouAB A B)), none, none] c_parting_1 (.lst (((nouAB A B).filter fun q => !decide (gv A q.1 = gv B q.1)).map fun q => .str (tx q.1))) :=
      ev_compF (e := fun q : Part => D.str (tx q.1)) (fun q => !decide (gv A q.1 = gv B q.1)) (fun q => .str (tx q.1)) fun q _ => ⟨_, b_name, by
        have : Ev cf [some (lenD a A), some (lenD a B), some (dicD (nouAB A B)), none, some (.str (tx q.1))] (.op2 .ne (.get2 (.op1 .dict_ (.op2 .ix (.var 0) (.lit (.int 1)))) (.var 4) (.lit (.int 0))) (.get2 (.op1 .dict_ (.op2 .ix (.var 1) (.lit (.int 1)))) (.var 4) (.lit (.int 0)))) (.bl (!decide (gv A q.1 = gv B q.1))) := inferInstance
        exact this.h, fun _ => rfl⟩
    refine wp_asg ?_
    obtain ⟨L, hL⟩ : ∃ L, L = (nouAB A B).filter fun q => !decide (gv A q.1 = gv B q.1) := ⟨_, rfl⟩
    rw [← hL]
    have ex : ∃ n, Unl A B n := by
      refine Classical.byContradiction fun z => hAB (can_ext hA hB fun n => ?_)
      exact Classical.byContradiction fun y => z ⟨n, y⟩
    have inL : ∀ n, Unl A B n → ∃ q ∈ L, q.1 = n := by
      intro n hn'
      obtain ⟨q, hq, rfl⟩ := List.mem_map.mp ((nouAB_mem A B n).mpr (unl_in hn'))
      refine ⟨q, ?_, rfl⟩
      rw [hL, List.mem_filter]
      exact ⟨hq, by simpa [Unl] using hn'⟩
    cases L with
    | nil => obtain ⟨n, z⟩ := ex; obtain ⟨q, hq, _⟩ := inL n z; cases hq
    | cons q r =>
      have srt : (nms (q :: r)).Pairwise fun x y => ¬ y < x := by
        have h1 := nou_sorted _ (sort_sorted (nms A ++ nms B))
        unfold nms at h1 ⊢
        rw [List.pairwise_map] at h1 ⊢
        rw [hL]
        exact h1.filter _
      have hmin : MinU A B q.1 := by
        constructor
        · have : q ∈ q :: r := List.mem_cons_self
          rw [hL, List.mem_filter] at this
          simpa [Unl] using this.2
        · intro n hn'
          obtain ⟨x, hx, rfl⟩ := inL n hn'
          rcases List.mem_cons.mp hx with rfl | hx
          · exact List.lt_irrefl _
          · unfold nms at srt
            rw [List.map_cons, List.pairwise_cons] at srt
            exact srt.1 _ (List.mem_map_of_mem hx)
      have : Sm2 .ix (.lst (List.map (fun q => D.str (tx q.1)) (q :: r))) (.int 0) (.str (tx q.1)) := ⟨s_ixL (by decide) rfl⟩
      refine wp_setP (n := q.1) (by unfold BIG; omega) ?_
      refine wp_nilT ?_
      refine wp_frz ?_
      exact wp_ret ⟨_, outF_ret, .inr ⟨fun z => hAB z.2, _, rfl, due_put hmem h900 hmin⟩⟩
  · have hab := of_decide_eq_false h2
    refine wp_nilT ?_
    refine wp_frz ?_
    exact wp_ret ⟨_, outF_ret, .inr ⟨hne, _, rfl, due_zero hmem h900 hab⟩⟩
end
end PyI
end

section
set_option maxRecDepth 100000
set_option maxHeartbeats 4000000
namespace PyI
open PySem
abbrev c_worth_1 : E := (.comp (.op2 .mul (.var 3) (.get2 (.var 1) (.var 2) (.lit (.int 0)))) (.tup [2, 3]) .of [(.op2 .ix (.var 0) (.lit (.int 1)))] [])
def f_worth : FDef := { name := "worth", ps := ["a", "numbers"], N := ["a", "numbers", "name", "times"], dfl := [], cls := [.F, .F], io := [], fresh := false, body := [
  .ret (.op2 .add (.op2 .ix (.var 0) (.lit (.int 0))) (.op1 .sum_ c_worth_1))] }
theorem go_worth {cf : CF} {a0 a1 : D} {x : D × List D} (w : Wp cf [some a0, some a1, none, none] [
  .ret (.op2 .add (.op2 .ix (.var 0) (.lit (.int 0))) (.op1 .sum_ c_worth_1))] (Ends [] x)) : runD cf (f_worth) [a0, a1] = some x := run_wp rfl w
theorem ge_worth {cf : CF} {a0 a1 : D} {P : D × List D → Prop} (w : Wp cf [some a0, some a1, none, none] [
  .ret (.op2 .add (.op2 .ix (.var 0) (.lit (.int 0))) (.op1 .sum_ c_worth_1))] (fun fl => ∃ x, outF [] fl = some x ∧ P x)) : ∃ x, runD cf (f_worth) [a0, a1] = some x ∧ P x := run_wpE rfl w
abbrev c_l_far_1 : E := (.comp (.var 4) (.tup [4, 5]) .of [(.op2 .add (.op2 .ix (.var 0) (.lit (.int 1))) (.op2 .ix (.var 1) (.lit (.int 1))))] [])
abbrev c_l_far_2 : E := (.comp (.dct [(.var 4)] [(.var 3)]) (.name 4) .of [(.var 2)] [])
def f_l_far : FDef := { name := "_law_far", ps := ["_law_a", "_law_b"], N := ["_law_a", "_law_b", "_law_names_here", "_law_great", "_law_name", "_law_many"], dfl := [], cls := [.F, .F], io := [], fresh := false, body := [
  .asg 2 false (.op1 .ssort c_l_far_1),
  .asg 3 false (.op2 .add (.op2 .add (.op2 .ix (.var 0) (.lit (.int 0))) (.op2 .ix (.var 1) (.lit (.int 0)))) (.lit (.int 1))),
  .ret (.op2 .add (.lst [(.dct [] [])]) c_l_far_2)] }
theorem go_l_far {cf : CF} {a0 a1 : D} {x : D × List D} (w : Wp cf [some a0, some a1, none, none, none, none] [
  .asg 2 false (.op1 .ssort c_l_far_1),
  .asg 3 false (.op2 .add (.op2 .add (.op2 .ix (.var 0) (.lit (.int 0))) (.op2 .ix (.var 1) (.lit (.int 0)))) (.lit (.int 1))),
  .ret (.op2 .add (.lst [(.dct [] [])]) c_l_far_2)] (Ends [] x)) : runD cf (f_l_far) [a0, a1] = some x := run_wp rfl w
theorem ge_l_far {cf : CF} {a0 a1 : D} {P : D × List D → Prop} (w : Wp cf [some a0, some a1, none, none, none, none] [
  .asg 2 false (.op1 .ssort c_l_far_1),
  .asg 3 false (.op2 .add (.op2 .add (.op2 .ix (.var 0) (.lit (.int 0))) (.op2 .ix (.var 1) (.lit (.int 0)))) (.lit (.int 1))),
  .ret (.op2 .add (.lst [(.dct [] [])]) c_l_far_2)] (fun fl => ∃ x, outF [] fl = some x ∧ P x)) : ∃ x, runD cf (f_l_far) [a0, a1] = some x ∧ P x := run_wpE rfl w
def f_l_near (i_l_mixed : Nat) : FDef := { name := "_law_near", ps := ["_law_a", "_law_b", "_law_k"], N := ["_law_a", "_law_b", "_law_k", "_law_found", "_law_turn", "_law_numbers", "_law_j", "_law_part"], dfl := [], cls := [.F, .F, .F], io := [], fresh := false, body := [
  .asg 3 true (.lst []),
  .for_ (.name 4) .range [(.lit (.int 4))] [.asg 5 true (.dct [] []), .for_ (.tup [6, 7]) .enum [(.op2 .add (.op2 .ix (.var 0) (.lit (.int 1))) (.op2 .ix (.var 1) (.lit (.int 1))))] [.setix 5 (.op2 .ix (.var 7) (.lit (.int 0))) (.op2 .mod (.call i_l_mixed [(.op2 .add (.op2 .mul (.lit (.int 2)) (.var 2)) (.lit (.int 1))), (.op2 .add (.op2 .mul (.lit (.int 8)) (.var 4)) (.var 6))]) (.lit (.int 61)))], .frz 5, .app 3 (.var 5)],
  .frz 3,
  .ret (.var 3)] }
theorem go_l_near {cf : CF} {a0 a1 a2 : D} {x : D × List D} (i_l_mixed : Nat) (w : Wp cf [some a0, some a1, some a2, none, none, none, none, none] [
  .asg 3 true (.lst []),
  .for_ (.name 4) .range [(.lit (.int 4))] [.asg 5 true (.dct [] []), .for_ (.tup [6, 7]) .enum [(.op2 .add (.op2 .ix (.var 0) (.lit (.int 1))) (.op2 .ix (.var 1) (.lit (.int 1))))] [.setix 5 (.op2 .ix (.var 7) (.lit (.int 0))) (.op2 .mod (.call i_l_mixed [(.op2 .add (.op2 .mul (.lit (.int 2)) (.var 2)) (.lit (.int 1))), (.op2 .add (.op2 .mul (.lit (.int 8)) (.var 4)) (.var 6))]) (.lit (.int 61)))], .frz 5, .app 3 (.var 5)],
  .frz 3,
  .ret (.var 3)] (Ends [] x)) : runD cf (f_l_near i_l_mixed) [a0, a1, a2] = some x := run_wp rfl w
theorem ge_l_near {cf : CF} {a0 a1 a2 : D} {P : D × List D → Prop} (i_l_mixed : Nat) (w : Wp cf [some a0, some a1, some a2, none, none, none, none, none] [
  .asg 3 true (.lst []),
  .for_ (.name 4) .range [(.lit (.int 4))] [.asg 5 true (.dct [] []), .for_ (.tup [6, 7]) .enum [(.op2 .add (.op2 .ix (.var 0) (.lit (.int 1))) (.op2 .ix (.var 1) (.lit (.int 1))))] [.setix 5 (.op2 .ix (.var 7) (.lit (.int 0))) (.op2 .mod (.call i_l_mixed [(.op2 .add (.op2 .mul (.lit (.int 2)) (.var 2)) (.lit (.int 1))), (.op2 .add (.op2 .mul (.lit (.int 8)) (.var 4)) (.var 6))]) (.lit (.int 61)))], .frz 5, .app 3 (.var 5)],
  .frz 3,
  .ret (.var 3)] (fun fl => ∃ x, outF [] fl = some x ∧ P x)) : ∃ x, runD cf (f_l_near i_l_mixed) [a0, a1, a2] = some x ∧ P x := run_wpE rfl w
abbrev c_l_right_1 (i_l_worth : Nat) : E := (.comp (.op2 .eq (.call i_l_worth [(.var 0), (.var 8)]) (.call i_l_worth [(.var 1), (.var 8)])) (.name 8) .of [(.var 3)] [])
abbrev c_l_right_2 (i_l_worth : Nat) : E := (.comp (.op2 .le (.call i_l_worth [(.var 0), (.var 8)]) (.call i_l_worth [(.var 1), (.var 8)])) (.name 8) .of [(.var 3)] [])
def f_l_right (i_l_far : Nat) (i_l_worth : Nat) (i_parting : Nat) (i_exceeding : Nat) (i_l_near : Nat) (i_worth : Nat) : FDef := { name := "_law_right", ps := ["_law_a", "_law_b", "_law_k"], N := ["_law_a", "_law_b", "_law_k", "_law_far_here", "_law_same", "_law_below", "_law_parted", "_law_passed", "_law_numbers"], dfl := [], cls := [.F, .F, .F], io := [], fresh := false, body := [
  .asg 3 false (.call i_l_far [(.var 0), (.var 1)]),
  .asg 4 false (.op1 .all_ (c_l_right_1 i_l_worth)),
  .asg 5 false (.op1 .all_ (c_l_right_2 i_l_worth)),
  .asg 6 false (.call i_parting [(.var 0), (.var 1)]),
  .asg 7 false (.call i_exceeding [(.var 0), (.var 1)]),
  .iff (.or_ (.op2 .ne (.op2 .is_ (.var 6) (.lit (.non))) (.var 4)) (.op2 .ne (.op2 .is_ (.var 7) (.lit (.non))) (.var 5))) [.ret (.lit (.bl false))] [],
  .for_ (.name 8) .of [(.call i_l_near [(.var 0), (.var 1), (.var 2)])] [.iff (.and_ (.op2 .is_ (.var 6) (.lit (.non))) (.op2 .ne (.call i_worth [(.var 0), (.var 8)]) (.call i_worth [(.var 1), (.var 8)]))) [.ret (.lit (.bl false))] [], .iff (.and_ (.op2 .is_ (.var 7) (.lit (.non))) (.op2 .gt (.call i_worth [(.var 0), (.var 8)]) (.call i_worth [(.var 1), (.var 8)]))) [.ret (.lit (.bl false))] [], .iff (.op2 .ne (.call i_worth [(.var 0), (.var 8)]) (.call i_l_worth [(.var 0), (.var 8)])) [.ret (.lit (.bl false))] []],
  .iff (.and_ (.op2 .isnot (.var 6) (.lit (.non))) (.op2 .eq (.call i_l_worth [(.var 0), (.var 6)]) (.call i_l_worth [(.var 1), (.var 6)]))) [.ret (.lit (.bl false))] [],
  .ret (.or_ (.op2 .is_ (.var 7) (.lit (.non))) (.op2 .gt (.call i_l_worth [(.var 0), (.var 7)]) (.call i_l_worth [(.var 1), (.var 7)])))] }
theorem go_l_right {cf : CF} {a0 a1 a2 : D} {x : D × List D} (i_l_far : Nat) (i_l_worth : Nat) (i_parting : Nat) (i_exceeding : Nat) (i_l_near : Nat) (i_worth : Nat) (w : Wp cf [some a0, some a1, some a2, none, none, none, none, none, none] [
  .asg 3 false (.call i_l_far [(.var 0), (.var 1)]),
  .asg 4 false (.op1 .all_ (c_l_right_1 i_l_worth)),
  .asg 5 false (.op1 .all_ (c_l_right_2 i_l_worth)),
  .asg 6 false (.call i_parting [(.var 0), (.var 1)]),
  .asg 7 false (.call i_exceeding [(.var 0), (.var 1)]),
  .iff (.or_ (.op2 .ne (.op2 .is_ (.var 6) (.lit (.non))) (.var 4)) (.op2 .ne (.op2 .is_ (.var 7) (.lit (.non))) (.var 5))) [.ret (.lit (.bl false))] [],
  .for_ (.name 8) .of [(.call i_l_near [(.var 0), (.var 1), (.var 2)])] [.iff (.and_ (.op2 .is_ (.var 6) (.lit (.non))) (.op2 .ne (.call i_worth [(.var 0), (.var 8)]) (.call i_worth [(.var 1), (.var 8)]))) [.ret (.lit (.bl false))] [], .iff (.and_ (.op2 .is_ (.var 7) (.lit (.non))) (.op2 .gt (.call i_worth [(.var 0), (.var 8)]) (.call i_worth [(.var 1), (.var 8)]))) [.ret (.lit (.bl false))] [], .iff (.op2 .ne (.call i_worth [(.var 0), (.var 8)]) (.call i_l_worth [(.var 0), (.var 8)])) [.ret (.lit (.bl false))] []],
  .iff (.and_ (.op2 .isnot (.var 6) (.lit (.non))) (.op2 .eq (.call i_l_worth [(.var 0), (.var 6)]) (.call i_l_worth [(.var 1), (.var 6)]))) [.ret (.lit (.bl false))] [],
  .ret (.or_ (.op2 .is_ (.var 7) (.lit (.non))) (.op2 .gt (.call i_l_worth [(.var 0), (.var 7)]) (.call i_l_worth [(.var 1), (.var 7)])))] (Ends [] x)) : runD cf (f_l_right i_l_far i_l_worth i_parting i_exceeding i_l_near i_worth) [a0, a1, a2] = some x := run_wp rfl w
theorem ge_l_right {cf : CF} {a0 a1 a2 : D} {P : D × List D → Prop} (i_l_far : Nat) (i_l_worth : Nat) (i_parting : Nat) (i_exceeding : Nat) (i_l_near : Nat) (i_worth : Nat) (w : Wp cf [some a0, some a1, some a2, none, none, none, none, none, none] [
  .asg 3 false (.call i_l_far [(.var 0), (.var 1)]),
  .asg 4 false (.op1 .all_ (c_l_right_1 i_l_worth)),
  .asg 5 false (.op1 .all_ (c_l_right_2 i_l_worth)),
  .asg 6 false (.call i_parting [(.var 0), (.var 1)]),
  .asg 7 false (.call i_exceeding [(.var 0), (.var 1)]),
  .iff (.or_ (.op2 .ne (.op2 .is_ (.var 6) (.lit (.non))) (.var 4)) (.op2 .ne (.op2 .is_ (.var 7) (.lit (.non))) (.var 5))) [.ret (.lit (.bl false))] [],
  .for_ (.name 8) .of [(.call i_l_near [(.var 0), (.var 1), (.var 2)])] [.iff (.and_ (.op2 .is_ (.var 6) (.lit (.non))) (.op2 .ne (.call i_worth [(.var 0), (.var 8)]) (.call i_worth [(.var 1), (.var 8)]))) [.ret (.lit (.bl false))] [], .iff (.and_ (.op2 .is_ (.var 7) (.lit (.non))) (.op2 .gt (.call i_worth [(.var 0), (.var 8)]) (.call i_worth [(.var 1), (.var 8)]))) [.ret (.lit (.bl false))] [], .iff (.op2 .ne (.call i_worth [(.var 0), (.var 8)]) (.call i_l_worth [(.var 0), (.var 8)])) [.ret (.lit (.bl false))] []],
  .iff (.and_ (.op2 .isnot (.var 6) (.lit (.non))) (.op2 .eq (.call i_l_worth [(.var 0), (.var 6)]) (.call i_l_worth [(.var 1), (.var 6)]))) [.ret (.lit (.bl false))] [],
  .ret (.or_ (.op2 .is_ (.var 7) (.lit (.non))) (.op2 .gt (.call i_l_worth [(.var 0), (.var 7)]) (.call i_l_worth [(.var 1), (.var 7)])))] (fun fl => ∃ x, outF [] fl = some x ∧ P x)) : ∃ x, runD cf (f_l_right i_l_far i_l_worth i_parting i_exceeding i_l_near i_worth) [a0, a1, a2] = some x ∧ P x := run_wpE rfl w
def f_law (i_l_twos : Nat) (i_l_right : Nat) : FDef := { name := "law", ps := ["_law_script"], N := ["_law_script", "_law_k", "_law_two"], dfl := [], cls := [.F], io := [], fresh := false, body := [
  .for_ (.tup [1, 2]) .enum [(.call i_l_twos [(.var 0)])] [.iff (.or_ (.op1 .not_ (.call i_l_right [(.op2 .ix (.var 2) (.lit (.int 0))), (.op2 .ix (.var 2) (.lit (.int 1))), (.op2 .add (.var 1) (.op2 .mod (.op2 .ix (.op2 .ix (.var 2) (.lit (.int 0))) (.lit (.int 0))) (.lit (.int 1009))))])) (.op1 .not_ (.call i_l_right [(.op2 .ix (.var 2) (.lit (.int 1))), (.op2 .ix (.var 2) (.lit (.int 0))), (.var 1)]))) [.ret (.lit (.bl false))] []],
  .ret (.lit (.bl true))] }
theorem go_law {cf : CF} {a0 : D} {x : D × List D} (i_l_twos : Nat) (i_l_right : Nat) (w : Wp cf [some a0, none, none] [
  .for_ (.tup [1, 2]) .enum [(.call i_l_twos [(.var 0)])] [.iff (.or_ (.op1 .not_ (.call i_l_right [(.op2 .ix (.var 2) (.lit (.int 0))), (.op2 .ix (.var 2) (.lit (.int 1))), (.op2 .add (.var 1) (.op2 .mod (.op2 .ix (.op2 .ix (.var 2) (.lit (.int 0))) (.lit (.int 0))) (.lit (.int 1009))))])) (.op1 .not_ (.call i_l_right [(.op2 .ix (.var 2) (.lit (.int 1))), (.op2 .ix (.var 2) (.lit (.int 0))), (.var 1)]))) [.ret (.lit (.bl false))] []],
  .ret (.lit (.bl true))] (Ends [] x)) : runD cf (f_law i_l_twos i_l_right) [a0] = some x := run_wp rfl w
theorem ge_law {cf : CF} {a0 : D} {P : D × List D → Prop} (i_l_twos : Nat) (i_l_right : Nat) (w : Wp cf [some a0, none, none] [
  .for_ (.tup [1, 2]) .enum [(.call i_l_twos [(.var 0)])] [.iff (.or_ (.op1 .not_ (.call i_l_right [(.op2 .ix (.var 2) (.lit (.int 0))), (.op2 .ix (.var 2) (.lit (.int 1))), (.op2 .add (.var 1) (.op2 .mod (.op2 .ix (.op2 .ix (.var 2) (.lit (.int 0))) (.lit (.int 0))) (.lit (.int 1009))))])) (.op1 .not_ (.call i_l_right [(.op2 .ix (.var 2) (.lit (.int 1))), (.op2 .ix (.var 2) (.lit (.int 0))), (.var 1)]))) [.ret (.lit (.bl false))] []],
  .ret (.lit (.bl true))] (fun fl => ∃ x, outF [] fl = some x ∧ P x)) : ∃ x, runD cf (f_law i_l_twos i_l_right) [a0] = some x ∧ P x := run_wpE rfl w
end PyI
end

section
set_option maxRecDepth 100000
set_option maxHeartbeats 4000000
namespace PyI
open PySem
def MinX (A B : List Part) (m : List Nat) : Prop := gv B m < gv A m ∧ ∀ n, gv B n < gv A n → ¬ n < m
def stepV (a b : Int) (A B : List Part) (m : List Nat) : Int := (b - a) / (gv A m - gv B m) + 1
def ExcS (a b : Int) (A B : List Part) (d : D) : Prop := (¬ Exc a b A B ∧ d = .non) ∨ (b < a ∧ d = dicD (nouAB A B)) ∨ (a ≤ b ∧ ∃ m, MinX A B m ∧ d = dicD (putT (nouAB A B) m (stepV a b A B m)))
theorem MinX.uniq {A B : List Part} {m k : List Nat} (h : MinX A B m) (h' : MinX A B k) : m = k :=
  List.le_antisymm (List.not_lt.mp (h.2 k h'.1)) (List.not_lt.mp (h'.2 m h.1))
theorem gt_in {A B : List Part} (hB : Can B) {n : List Nat} (h : gv B n < gv A n) : n ∈ nms A := by
  by_cases c : n ∈ nms A
  · exact c
  · rw [gv_none c] at h
    have := gv_nn hB.p n
    omega
theorem excS_of {a b : Int} {A B : List Part} (hB : Can B) {x : D × List D} (h : (¬ Exc a b A B ∧ x = (.non, [])) ∨ (b < a ∧ x = (dicD (nouAB A B), [])) ∨
      (a ≤ b ∧ ∃ pre q post, nouAB A B = pre ++ q :: post ∧ (∀ p ∈ pre, gv A p.1 ≤ gv B p.1) ∧ gv B q.1 < gv A q.1 ∧ x = (dicD (putT (nouAB A B) q.1 ((b - a) / (gv A q.1 - gv B q.1) + 1)), []))) : ∃ d, x = (d, []) ∧ ExcS a b A B d := by
  rcases h with ⟨h, rfl⟩ | ⟨h, rfl⟩ | ⟨h, pre, q, post, e, h1, h2, rfl⟩
  · exact ⟨_, rfl, .inl ⟨h, rfl⟩⟩
  · exact ⟨_, rfl, .inr (.inl ⟨h, rfl⟩)⟩
  · refine ⟨_, rfl, .inr (.inr ⟨h, q.1, ⟨h2, fun n hn => ?_⟩, rfl⟩)⟩
    have hi := (nouAB_mem A B n).mpr (.inl (gt_in hB hn))
    have hs := nouAB_srt A B
    rw [e] at hi hs
    unfold nms at hi hs
    rw [List.map_append, List.map_cons] at hi hs
    rw [List.pairwise_append] at hs
    rcases List.mem_append.mp hi with hi | hi
    · obtain ⟨p, hp, rfl⟩ := List.mem_map.mp hi
      have := h1 p hp
      omega
    · rcases List.mem_cons.mp hi with rfl | hi
      · exact List.lt_irrefl _
      · exact (List.pairwise_cons.mp hs.2.1).1 n hi
theorem wor_at {A U : List Part} {m : List Nat} {v : Int} (hn : (nms A).Nodup) (h : ∀ n, gv U n = if n = m then v else 0) : wor A U = gv A m * v := by
  induction A with
  | nil => show (0 : Int) = 0 * v; rw [Int.zero_mul]
  | cons q r ih =>
    unfold nms at hn
    rw [List.map_cons, List.nodup_cons] at hn
    rw [wor_cons, ih hn.2, h, gv_cons]
    by_cases e : q.1 = m
    · rw [if_pos e, if_pos e, gv_none (by rw [← e]; exact hn.1), Int.zero_mul, Int.add_zero]
    · rw [if_neg e, if_neg e, Int.mul_zero, Int.zero_add]
theorem put_nou {A B : List Part} {m : List Nat} {v : Int} (hm : m ∈ nms (nouAB A B)) : nms (putT (nouAB A B) m v) = nms (nouAB A B) := by rw [put_nms, if_pos hm]
theorem gv_putnou (A B : List Part) (m : List Nat) (v : Int) (n : List Nat) : gv (putT (nouAB A B) m v) n = if n = m then v else 0 := by
  rw [gv_put]
  split
  · rfl
  · exact nou_gv0 _ n
theorem stepV_gt {a b : Int} {A B : List Part} {m : List Nat} (h : gv B m < gv A m) : b + gv B m * stepV a b A B m < a + gv A m * stepV a b A B m := by
  have := Int.lt_ediv_add_one_mul_self (b - a) (show 0 < gv A m - gv B m by omega)
  have e : stepV a b A B m * (gv A m - gv B m) = gv A m * stepV a b A B m - gv B m * stepV a b A B m := by rw [Int.mul_sub, Int.mul_comm, Int.mul_comm (stepV a b A B m)]
  unfold stepV at *
  omega
theorem stepV_le {a b : Int} {A B : List Part} {m : List Nat} (h : gv B m < gv A m) : a + gv A m * (stepV a b A B m - 1) ≤ b + gv B m * (stepV a b A B m - 1) := by
  have h1 := Int.ediv_mul_le (b - a) (show gv A m - gv B m ≠ 0 by omega)
  obtain ⟨w, hw⟩ : ∃ w, w = (b - a) / (gv A m - gv B m) := ⟨_, rfl⟩
  have e : stepV a b A B m - 1 = w := by unfold stepV; omega
  rw [← hw] at h1
  rw [e]
  have e : w * (gv A m - gv B m) = gv A m * w - gv B m * w := by rw [Int.mul_sub, Int.mul_comm, Int.mul_comm w]
  omega
theorem stepV_pos {a b : Int} {A B : List Part} {m : List Nat} (h : gv B m < gv A m) (hab : a ≤ b) : 0 < stepV a b A B m := by
  have := Int.ediv_nonneg (show 0 ≤ b - a by omega) (show 0 ≤ gv A m - gv B m by omega)
  unfold stepV
  omega
theorem stepV_bd {a b : Int} {A B : List Part} {m : List Nat} (h : gv B m < gv A m) (hab : a ≤ b) : stepV a b A B m ≤ b - a + 1 := by
  have := Int.ediv_le_self (gv A m - gv B m) (show 0 ≤ b - a by omega)
  unfold stepV
  omega
end PyI
end

section
set_option maxRecDepth 100000
set_option maxHeartbeats 4000000
namespace PyI
open PySem
structure LgB (k : Nat) (m C c : Int) (L : List Part) : Prop where
  lg : Lg k m c L
  cb : c ≤ C
theorem ix3B {a b c k M : Int} (ha : 0 ≤ a) (hb : 0 ≤ b) (hc : 0 ≤ c) (ma : a ≤ M) (mb : b ≤ M) (mc : c ≤ M) : ∃ v : Int, IxL [D.int a, .int b, .int c] (k % 3) (.int v) ∧ 0 ≤ v ∧ v ≤ M := by
  have h : k % 3 = 0 ∨ k % 3 = 1 ∨ k % 3 = 2 := by omega
  rcases h with h | h | h <;> rw [h]
  · exact ⟨a, ⟨by decide, rfl⟩, ha, ma⟩
  · exact ⟨b, ⟨by decide, rfl⟩, hb, mb⟩
  · exact ⟨c, ⟨by decide, rfl⟩, hc, mc⟩
def TwOkB (p : Tw) : Prop := LgB 20 B58 (20 * B58) p.1.1 p.1.2 ∧ LgB 30 (B58 + 10) (21 * B58) p.2.1 p.2.2
section
variable {cf : CF}
theorem run_l_otherB {im idr imd : Nat} {N : List (List Nat)} {ms : List Int} {c : Int} {L : List Part} [hm : ∀ c k : Int, Cal cf im [.int c, .int k] (.int (mixed c k)) []]
    (hdrawn : ∀ (N : List (List Nat)) (ms : List Int), N.length = 5 → ms.length ≤ 900 → ∃ c T, cf idr [.lst (ms.map D.int), .lst (N.map fun l => D.str (tx l))] = some (lenD c (madeL T), []) ∧ DrawI N c T ms.length)
    [hmd : ∀ (c : Int) (T : List Part) [NdP T] [LenB T], Cal cf imd [.int c, dicD T] (lenD c (madeL T)) []] (h5 : N.length = 5) (hl : ms.length ≤ 20) (G0 : LgB 20 B58 (20 * B58) c L) :
    ∃ x, runD cf (f_l_other im idr imd) [lenD c L, .lst (ms.map D.int), .lst (N.map fun l => D.str (tx l))] = some x ∧ ∃ c' L', x = (lenD c' L', []) ∧ LgB 30 (B58 + 10) (21 * B58) c' L' := by
  have hB58 : B58 = 10000000000000000000000000000000000000000000000000000000000 := rfl
  refine ge_l_other _ _ _ ?_
  have G := G0.lg
  have Gc := G0.cb
  have : NdP L := ⟨G.can.nd⟩
  have : LenB L := ⟨by have := G.len; omega⟩
  have G' : Lg 30 (B58 + 10) c L := ⟨G.can, G.nn, by have := G.len; omega, fun q hq => by have := G.bd q hq; omega⟩
  refine wp_asg ?_
  generalize mixed ms.sum 70 = h
  refine wp_asg ?_
  refine wp_asg ?_
  refine wp_if (fun _ => ?_) (fun _ => ?_)
  · obtain ⟨c', T, e, I⟩ := hdrawn N ms h5 (by omega)
    have : Cal cf idr [.lst (ms.map D.int), .lst (N.map fun l => D.str (tx l))] (lenD c' (madeL T)) [] := ⟨e⟩
    have g := draw_lg I hl
    exact wp_ret ⟨_, outF_ret, _, _, rfl, ⟨g.can, g.nn, by have := g.len; omega, fun q hq => by have := g.bd q hq; omega⟩, by have := I.cb; show c' ≤ 21 * B58; omega⟩
  refine wp_nilT ?_
  refine wp_if (fun _ => ?_) (fun _ => ?_)
  · exact wp_ret ⟨_, outF_ret, c, L, rfl, G', by omega⟩
  refine wp_nilT ?_
  refine wp_if (fun _ => ?_) (fun _ => ?_)
  · refine wp_frz ?_
    exact wp_ret ⟨_, outF_ret, _, _, rfl, made_lg G.can.nd G'.len G'.bd (by have := G.nn; omega), by omega⟩
  refine wp_nilT ?_
  refine wp_if (fun _ => ?_) (fun _ => ?_)
  · refine wp_frz ?_
    have : Dvs (1 + h / 6 % 3) := ⟨by omega, by omega⟩
    exact wp_ret ⟨_, outF_ret, _, _, rfl, made_lg G.can.nd G'.len G'.bd (Int.ediv_nonneg G.nn (by omega)), Int.le_trans (Int.ediv_le_self _ G.nn) (by omega)⟩
  refine wp_nilT ?_
  obtain ⟨n, hn, ixn⟩ := ixN5 h5 (h / 6)
  refine wp_asg ?_
  have fin : ∀ T : List Part, (nms T).Nodup → T.length ≤ 30 → (∀ q ∈ T, q.2 ≤ B58 + 10) → Wp cf [some (lenD c L), some (.lst (ms.map D.int)), some (.lst (N.map fun l => D.str (tx l))), some (.int h), some (dicD T), some (.int (h % 6)), some (.str (tx n))] [
      .frz 4,
      .ret (.call imd [(.op2 .ix (.lst [(.op2 .ix (.var 0) (.lit (.int 0))), (.op2 .add (.op2 .ix (.var 0) (.lit (.int 0))) (.op2 .mod (.op2 .fdiv (.var 3) (.lit (.int 90))) (.lit (.int 30)))), (.op2 .fdiv (.op2 .ix (.var 0) (.lit (.int 0))) (.lit (.int 2)))]) (.op2 .mod (.op2 .fdiv (.var 3) (.lit (.int 2700))) (.lit (.int 3)))), (.var 4)])] (fun fl => ∃ x, outF [] fl = some x ∧ ∃ c' L', x = (lenD c' L', []) ∧ LgB 30 (B58 + 10) (21 * B58) c' L') := by
    intro T t1 t2 t3
    refine wp_frz ?_
    have : NdP T := ⟨t1⟩
    have : LenB T := ⟨by omega⟩
    have : Dvs 90 := ⟨by decide, by decide⟩
    have : Dvs 2700 := ⟨by decide, by decide⟩
    have : Pos 30 := ⟨by decide⟩
    obtain ⟨v, hv, v0, v1⟩ := ix3B (k := h / 2700) (M := 21 * B58) G.nn (show 0 ≤ c + h / 90 % 30 by have := G.nn; omega) (show 0 ≤ c / 2 by have := G.nn; omega) (by omega) (by omega) (by have := G.nn; omega)
    exact wp_ret ⟨_, outF_ret, _, _, rfl, made_lg t1 t2 t3 v0, v1⟩
  have : Dvs 30 := ⟨by decide, by decide⟩
  have bg : gv L n ≤ B58 := by
    rcases gv_cases G.can.nd n with ⟨q, hq, _, e⟩ | ⟨_, e⟩
    · rw [e]; exact G.bd q hq
    · rw [e]; decide
  have hB : L.length < BIG := by have := G.len; unfold BIG; omega
  have hput : ∀ v : Int, v ≤ B58 + 10 → (nms (putT L n v)).Nodup ∧ (putT L n v).length ≤ 30 ∧ ∀ q ∈ putT L n v, q.2 ≤ B58 + 10 := fun v hv => ⟨putT_names G.can.nd, by have := putT_len L n v; have := G.len; omega, putT_le G'.bd hv⟩
  refine wp_if (fun e4 => ?_) (fun e4 => ?_)
  · refine wp_setP hB ?_
    refine wp_nilT ?_
    have : Fls (h % 6 = 5) := ⟨by have := of_decide_eq_true e4; omega⟩
    refine wp_ifF ?_
    refine wp_nilT ?_
    obtain ⟨t1, t2, t3⟩ := hput (gv L n + h / 30 % 3) (by omega)
    exact fin _ t1 t2 t3
  · refine wp_nilT ?_
    refine wp_if (fun e5 => ?_) (fun e5 => ?_)
    · refine wp_setP hB ?_
      refine wp_nilT ?_
      obtain ⟨t1, t2, t3⟩ := hput (if gv L n - 1 - h / 30 % 3 > 0 then gv L n - 1 - h / 30 % 3 else 0) (max0_le (by omega))
      exact fin _ t1 t2 t3
    · refine wp_nilT ?_
      exact fin _ G.can.nd G'.len G'.bd
theorem run_l_twosB {i0 i1 i2 i3 : Nat} {ns : List Int} (hl : ns.length ≤ 63)
    (hnames : ∀ c : Int, ∃ N : List (List Nat), N.length = 5 ∧ cf i0 [.int c] = some (.lst (N.map fun l => .str (tx l)), []))
    (hcell : ∀ k : Nat, cf i1 [.lst (ns.map D.int), .int k] = some (.int (cellAt ns k), []))
    (hdrawn : ∀ (N : List (List Nat)) (ms : List Int), N.length = 5 → ms.length ≤ 900 → ∃ c T, cf i2 [.lst (ms.map D.int), .lst (N.map fun l => D.str (tx l))] = some (lenD c (madeL T), []) ∧ DrawI N c T ms.length)
    (hother : ∀ (N : List (List Nat)) (ms : List Int) (c : Int) (L : List Part), N.length = 5 → ms.length ≤ 20 → LgB 20 B58 (20 * B58) c L → ∃ c' L', cf i3 [lenD c L, .lst (ms.map D.int), .lst (N.map fun l => D.str (tx l))] = some (lenD c' L', []) ∧ LgB 30 (B58 + 10) (21 * B58) c' L') :
    ∃ x, runD cf (f_l_twos i0 i1 i2 i3) [.lst (ns.map D.int)] = some x ∧ ∃ P : List Tw, x = (.lst (P.map twoD), []) ∧ P.length ≤ 64 ∧ ∀ p ∈ P, TwOkB p := by
  have hB58 : B58 = 10000000000000000000000000000000000000000000000000000000000 := rfl
  refine ge_l_twos _ _ _ _ ?_
  have : LenB ns := ⟨by omega⟩
  have : Cal cf i1 [.lst (ns.map D.int), .int 0] (.int (cellAt ns 0)) [] := ⟨hcell 0⟩
  obtain ⟨N, h5, eN⟩ := hnames (cellAt ns 0)
  have : Cal cf i0 [.int (cellAt ns 0)] (.lst (N.map fun l => .str (tx l))) [] := ⟨eN⟩
  refine wp_asg ?_
  refine wp_asg ?_
  have hmx : 2 ≤ (if (ns.length : Int) > 2 then (ns.length : Int) else 2) ∧ (if (ns.length : Int) > 2 then (ns.length : Int) else 2) ≤ 64 := by split <;> omega
  have : Itr .range [.int 1, .int (if (ns.length : Int) > 2 then (ns.length : Int) else 2), .int 8] _ := ⟨it_range3 hmx.1 hmx.2⟩
  have hk : ((if (ns.length : Int) > 2 then (ns.length : Int) else 2).toNat + 6) / 8 ≤ 64 := by omega
  refine wp_for (α := Nat) (fun pre e => ∃ o3 o4, ∃ P : List Tw, e = [some (.lst (ns.map D.int)), some (.lst (N.map fun l => .str (tx l))), some (.lst (P.map twoD)), o3, o4] ∧ P.length = pre.length ∧ ∀ p ∈ P, TwOkB p) ⟨_, _, [], rfl, rfl, by simp⟩ ?_ ?_
  · rintro pre a post e hl ⟨o3, o4, P, rfl, hP, hok⟩
    refine bnd_ok ?_
    have h0 : 0 ≤ 1 + (a : Int) * 8 := by omega
    generalize (1 + (a : Int) * 8) = at_ at *
    have hpre : pre.length < 64 := by
      have := congrArg List.length hl
      simp at this; omega
    have c1 : (cutL ns (some at_) (some (at_ + 6))).length ≤ 20 := by rw [cutL_mid _ h0 (by omega), List.length_drop, List.length_take]; omega
    have c2 : (cutL ns (some (at_ + 4)) (some (at_ + 8))).length ≤ 20 := by rw [cutL_mid _ (by omega) (by omega), List.length_drop, List.length_take]; omega
    obtain ⟨c, T, e1, I⟩ := hdrawn N (cutL ns (some at_) (some (at_ + 6))) h5 (by omega)
    have : Cal cf i2 [.lst ((cutL ns (some at_) (some (at_ + 6))).map D.int), .lst (N.map fun l => D.str (tx l))] (lenD c (madeL T)) [] := ⟨e1⟩
    refine wp_asg ?_
    have G : LgB 20 B58 (20 * B58) c (madeL T) := ⟨draw_lg I c1, by have := I.cb; omega⟩
    generalize madeL T = L at *
    obtain ⟨c', L', e2, G'⟩ := hother N (cutL ns (some (at_ + 4)) (some (at_ + 8))) c L h5 c2 G
    have : Cal cf i3 [lenD c L, .lst ((cutL ns (some (at_ + 4)) (some (at_ + 8))).map D.int), .lst (N.map fun l => D.str (tx l))] (lenD c' L') [] := ⟨e2⟩
    refine wp_app (by rw [List.length_map]; unfold BIG; omega) ?_
    refine wp_nil ⟨_, _, P ++ [((c, L), (c', L'))], by rw [List.map_append]; rfl, by simp [hP], fun p hp => ?_⟩
    rcases List.mem_append.mp hp with hp | hp
    · exact hok p hp
    · rw [List.mem_singleton.mp hp]; exact ⟨G, G'⟩
  · rintro e ⟨o3, o4, P, rfl, hP, hok⟩
    refine wp_frz ?_
    exact wp_ret ⟨_, outF_ret, P, rfl, by rw [hP, List.length_range]; exact hk, hok⟩
end
end PyI
end

section
set_option maxRecDepth 100000
set_option maxHeartbeats 4000000
namespace PyI
open PySem
def far (a b : Int) (A B : List Part) : List (List Part) := [] :: (nms (nouAB A B)).map fun n => [(n, a + b + 1)]
theorem gv_one (n : List Nat) (g : Int) (m : List Nat) : gv [(n, g)] m = if m = n then g else 0 := by
  rw [gv_cons]
  by_cases e : m = n
  · subst e; rw [if_pos rfl, if_pos rfl]
  · rw [if_neg e, if_neg fun z => e z.symm]; rfl
theorem wor_mono {A B U : List Part} (hA : Can A) (hB : Can B) (h : ∀ n, gv A n ≤ gv B n) (hU : ∀ n, 0 ≤ gv U n) : wor A U ≤ wor B U := by
  have e : B = sumL A (subL B A) := can_ext hB (sumL_can hA) fun n => by
    rw [sumL_gv hA (subL_can hB), subL_gv hB hA h]; omega
  have h0 : ∀ L : List Part, (∀ q ∈ L, 0 < q.2) → 0 ≤ wor L U := by
    intro L hL
    induction L with
    | nil => exact Int.le_refl _
    | cons q r ih =>
      rw [wor_cons]
      have := Int.mul_nonneg (Int.le_of_lt (hL q List.mem_cons_self)) (hU q.1)
      have := ih fun x hx => hL x (List.mem_cons_of_mem _ hx)
      omega
  have e2 : wor B U = wor A U + wor (subL B A) U := by
    have := wor_sum (A := A) (B := subL B A) (U := U) hA (subL_can hB)
    rw [← e] at this; exact this
  have := h0 _ (subL_can (B := A) hB).p
  omega
theorem far_same {a b : Int} {A B : List Part} (hA : Can A) (hB : Can B) (a0 : 0 ≤ a) (b0 : 0 ≤ b) : (far a b A B).all (fun U => decide (a + wor A U = b + wor B U)) = true ↔ a = b ∧ A = B := by
  rw [List.all_eq_true]
  constructor
  · intro h
    have h1 := of_decide_eq_true (h [] List.mem_cons_self)
    rw [wor_zero (fun _ => rfl), wor_zero (fun _ => rfl)] at h1
    have hab : a = b := by omega
    refine ⟨hab, can_ext hA hB fun n => ?_⟩
    by_cases c : n ∈ nms (nouAB A B)
    · have h2 := of_decide_eq_true (h [(n, a + b + 1)] (List.mem_cons_of_mem _ (List.mem_map_of_mem c)))
      rw [wor_at hA.nd (gv_one n _), wor_at hB.nd (gv_one n _), hab] at h2
      exact Int.eq_of_mul_eq_mul_right (show b + b + 1 ≠ 0 by omega) (by omega)
    · rw [nouAB_mem] at c
      rw [gv_none fun z => c (.inl z), gv_none fun z => c (.inr z)]
  · rintro ⟨rfl, rfl⟩ U _
    exact decide_eq_true rfl
theorem far_below {a b : Int} {A B : List Part} (hA : Can A) (hB : Can B) (a0 : 0 ≤ a) (b0 : 0 ≤ b) : (far a b A B).all (fun U => decide (a + wor A U ≤ b + wor B U)) = true ↔ ¬ Exc a b A B := by
  rw [List.all_eq_true]
  constructor
  · intro h hx
    have h1 := of_decide_eq_true (h [] List.mem_cons_self)
    rw [wor_zero (fun _ => rfl), wor_zero (fun _ => rfl)] at h1
    rcases hx with z | ⟨n, z⟩
    · omega
    · have c : n ∈ nms (nouAB A B) := (nouAB_mem A B n).mpr (.inl (gt_in hB z))
      have h2 := of_decide_eq_true (h [(n, a + b + 1)] (List.mem_cons_of_mem _ (List.mem_map_of_mem c)))
      rw [wor_at hA.nd (gv_one n _), wor_at hB.nd (gv_one n _)] at h2
      have h3 : (gv B n + 1) * (a + b + 1) ≤ gv A n * (a + b + 1) := Int.mul_le_mul_of_nonneg_right (by omega) (by omega)
      rw [Int.add_mul, Int.one_mul] at h3
      omega
  · intro h U hU
    refine decide_eq_true ?_
    have hab : a ≤ b := by
      by_cases c : a ≤ b
      · exact c
      · exact absurd (.inl (by omega)) h
    have hg : ∀ n, gv A n ≤ gv B n := fun n => by
      by_cases c : gv A n ≤ gv B n
      · exact c
      · exact absurd (.inr ⟨n, by omega⟩) h
    have hu : ∀ n, 0 ≤ gv U n := fun n => by
      rcases List.mem_cons.mp hU with rfl | hU
      · exact Int.le_refl _
      · obtain ⟨m, _, rfl⟩ := List.mem_map.mp hU
        rw [gv_one]; split <;> omega
    have := wor_mono hA hB hg hu
    omega
theorem bd_gv {A : List Part} (hA : (nms A).Nodup) (bd : ∀ q ∈ A, q.2 ≤ B58 + 10) (n : List Nat) : gv A n ≤ B58 + 10 := by
  rcases gv_cases hA n with ⟨q, hq, _, e⟩ | ⟨_, e⟩
  · rw [e]; exact bd q hq
  · rw [e]; decide
instance ne_bool {k : Bool} : Sm2 .ne (.bl k) (.bl k) (.bl false) := ⟨by cases k <;> rfl⟩
instance two0 {p : Tw} : Sm2 .ix (twoD p) (.int 0) (lenD p.1.1 p.1.2) := ⟨s_ixT0⟩
instance two1 {p : Tw} : Sm2 .ix (twoD p) (.int 1) (lenD p.2.1 p.2.2) := ⟨s_ixT1⟩
section
variable {cf : CF}
theorem run_l_far {a b : Int} {A B : List Part} (la : A.length ≤ 400) (lb : B.length ≤ 400) : runD cf f_l_far [lenD a A, lenD b B] = some (.lst ((far a b A B).map dicD), []) := by
  refine go_l_far ?_
  have : LenB A := ⟨by omega⟩
  have : LenB B := ⟨by omega⟩
  have it : Itr .of [.tup (partsD A ++ partsD B)] ((A ++ B).map partD) := ⟨by show some _ = _; unfold partsD; rw [List.map_append]⟩
  have hsort : Sm1 .ssort (.lst ((A ++ B).map fun q => D.str (tx q.1))) (.lst ((nms (nouAB A B)).map fun l => D.str (tx l))) := ⟨ssortAB (by omega)⟩
  have lN : LenB (nms (nouAB A B)) := ⟨by have := nouAB_len A B; unfold nms; rw [List.length_map]; omega⟩
  have : Ev cf [some (lenD a A), some (lenD b B), none, none, none, none] c_l_far_1 (.lst ((A ++ B).map fun q => .str (tx q.1))) := ev_compM (e := partD) (fun q => .str (tx q.1)) fun q _ => ev_ok
  refine wp_asg ?_
  refine wp_asg ?_
  have : Ev cf [some (lenD a A), some (lenD b B), some (.lst ((nms (nouAB A B)).map fun l => D.str (tx l))), some (.int (a + b + 1)), none, none] c_l_far_2 (.lst ((nms (nouAB A B)).map fun n => dicD [(n, a + b + 1)])) := ev_compM (e := fun n : List Nat => D.str (tx n)) (fun n => dicD [(n, a + b + 1)]) fun q _ => ev_ok
  refine wp_ret ?_
  show some (D.lst ([.dic []] ++ (nms (nouAB A B)).map fun n => dicD [(n, a + b + 1)]), _) = some (D.lst ((far a b A B).map dicD), _)
  unfold far
  rw [List.map_cons, List.map_map]; rfl
theorem run_l_near {im : Nat} {a b k : Int} {A B : List Part} [hm : ∀ c k : Int, Cal cf im [.int c, .int k] (.int (mixed c k)) []] (la : A.length ≤ 400) (lb : B.length ≤ 400) :
    ∃ x, runD cf (f_l_near im) [lenD a A, lenD b B, .int k] = some x ∧ ∃ L : List (List Part), x = (.lst (L.map dicD), []) ∧ L.length ≤ 4 ∧ ∀ U ∈ L, ∀ n, 0 ≤ gv U n ∧ gv U n ≤ 60 := by
  refine ge_l_near _ ?_
  have : LenB A := ⟨by omega⟩
  have : LenB B := ⟨by omega⟩
  have it : Itr .enum [.tup (partsD A ++ partsD B)] (((A ++ B).zipIdx 0).map fun p => D.tup [.int (p.2 : Nat), partD p.1]) := ⟨by rw [← enumD_map]; show some _ = _; unfold partsD; rw [List.map_append]⟩
  have : Pos 61 := ⟨by decide⟩
  refine wp_asg ?_
  refine wp_for (α := Nat) (fun pre e => ∃ L : List (List Part), ∃ o4 o5 o6 o7, e = [some (lenD a A), some (lenD b B), some (.int k), some (.lst (L.map dicD)), o4, o5, o6, o7] ∧ L.length = pre.length ∧ ∀ U ∈ L, ∀ n, 0 ≤ gv U n ∧ gv U n ≤ 60) ⟨[], _, _, _, _, rfl, rfl, by simp⟩ ?_ ?_
  · rintro pre t post e hl ⟨L, o4, o5, o6, o7, rfl, hL, hU⟩
    have hpre : pre.length < 4 := by
      have := congrArg List.length hl
      simp at this; omega
    refine bnd_ok ?_
    refine wp_asg ?_
    refine wp_for (α := Part × Nat) (fun pre e => ∃ T : List Part, ∃ o6 o7, e = [some (lenD a A), some (lenD b B), some (.int k), some (.lst (L.map dicD)), some (.int t), some (dicD T), o6, o7] ∧ T.length ≤ pre.length ∧ ∀ n, 0 ≤ gv T n ∧ gv T n ≤ 60) ⟨[], _, _, rfl, Nat.le_refl _, fun n => by show 0 ≤ (0 : Int) ∧ (0 : Int) ≤ 60; omega⟩ ?_ ?_
    · rintro pre2 q post2 e hl2 ⟨T, o6, o7, rfl, hT, hg⟩
      have hp2 : pre2.length ≤ 800 := by
        have := congrArg List.length hl2
        rw [List.length_zipIdx, List.length_append, List.length_append] at this; omega
      refine bnd_ok ?_
      refine wp_setP (by unfold BIG; omega) ?_
      refine wp_nil ⟨_, _, _, rfl, ?_, fun n => ?_⟩
      · have := putT_len T q.1.1 (mixed (2 * k + 1) (8 * (t : Int) + (q.2 : Int)) % 61)
        rw [List.length_append, List.length_singleton]
        omega
      · rw [gv_put]
        split
        · omega
        · exact hg n
    · rintro e ⟨T, o6, o7, rfl, hT, hg⟩
      refine wp_frz ?_
      refine wp_app (by rw [List.length_map]; unfold BIG; omega) ?_
      refine wp_nil ⟨L ++ [T], _, _, _, _, by rw [List.map_append]; rfl, by simp [hL], fun U hU2 => ?_⟩
      rcases List.mem_append.mp hU2 with h | h
      · exact hU U h
      · rw [List.mem_singleton.mp h]; exact hg
  · rintro e ⟨L, o4, o5, o6, o7, rfl, hL, hU⟩
    refine wp_frz ?_
    exact wp_ret ⟨_, outF_ret, L, rfl, by rw [hL]; decide, hU⟩
theorem run_l_right7 {i0 i1 i2 i3 i4 i5 : Nat} {a b k : Int} {A B : List Part} (hA : Can A) (hB : Can B) (la : A.length ≤ 400) (lb : B.length ≤ 400) (bA : ∀ q ∈ A, q.2 ≤ B58 + 10) (bB : ∀ q ∈ B, q.2 ≤ B58 + 10) (a0 : 0 ≤ a) (b0 : 0 ≤ b) (ba : a ≤ 21 * B58) (bb : b ≤ 21 * B58)
    (hfar : cf i0 [lenD a A, lenD b B] = some (.lst ((far a b A B).map dicD), []))
    (hw : ∀ (a : Int) (A U : List Part), A.length ≤ 4000 → (∀ q ∈ A, mulOk q.2 (gv U q.1) = true) → cf i1 [lenD a A, dicD U] = some (.int (a + wor A U), []))
    (hp : ∃ d, cf i2 [lenD a A, lenD b B] = some (d, []) ∧ ((a = b ∧ A = B ∧ d = .non) ∨ (¬ (a = b ∧ A = B) ∧ ∃ T, d = dicD T ∧ DueS a b A B T)))
    (hx : ∃ d, cf i3 [lenD a A, lenD b B] = some (d, []) ∧ ExcS a b A B d)
    (hnear : ∃ L : List (List Part), cf i4 [lenD a A, lenD b B, .int k] = some (.lst (L.map dicD), []) ∧ L.length ≤ 4 ∧ ∀ U ∈ L, ∀ n, 0 ≤ gv U n ∧ gv U n ≤ 60)
    (hw' : ∀ (a : Int) (A U : List Part), A.length ≤ 4000 → (∀ q ∈ A, mulOk q.2 (gv U q.1) = true) → cf i5 [lenD a A, dicD U] = some (.int (a + wor A U), [])) :
    runD cf (f_l_right i0 i1 i2 i3 i4 i5) [lenD a A, lenD b B, .int k] = some (.bl true, []) := by
  have hB58 : B58 = 10000000000000000000000000000000000000000000000000000000000 := rfl
  refine go_l_right _ _ _ _ _ _ ?_
  obtain ⟨d1, e1, h1⟩ := hp
  obtain ⟨d2, e2, h2⟩ := hx
  obtain ⟨L, e3, h3, h4⟩ := hnear
  have : Cal cf i0 [lenD a A, lenD b B] (.lst ((far a b A B).map dicD)) [] := ⟨hfar⟩
  have : Cal cf i2 [lenD a A, lenD b B] d1 [] := ⟨e1⟩
  have : Cal cf i3 [lenD a A, lenD b B] d2 [] := ⟨e2⟩
  have : Cal cf i4 [lenD a A, lenD b B, .int k] (.lst (L.map dicD)) [] := ⟨e3⟩
  have small : ∀ {A : List Part} {v : Int}, 0 ≤ v → v ≤ 60 * B58 → (∀ q ∈ A, 0 < q.2) → (∀ q ∈ A, q.2 ≤ B58 + 10) → ∀ q ∈ A, mulOk q.2 v = true := fun h0 hv hp hb q hq => by
    have x1 := hp q hq
    have x2 := hb q hq
    have y1 : Bg q.2 := bg_of (by omega) (k := B58 + 10) (by omega) (by rw [hB58]; decide)
    have y2 : Bg _ := bg_of h0 hv (by rw [hB58]; decide)
    exact mulOk_big y1.h y2.h
  have cA : ∀ U : List Part, (∀ n, 0 ≤ gv U n ∧ gv U n ≤ 60 * B58) → Cal cf i1 [lenD a A, dicD U] (.int (a + wor A U)) [] := fun U hU => ⟨hw a A U (by omega) fun q hq => small (hU _).1 (hU _).2 hA.p bA q hq⟩
  have cB : ∀ U : List Part, (∀ n, 0 ≤ gv U n ∧ gv U n ≤ 60 * B58) → Cal cf i1 [lenD b B, dicD U] (.int (b + wor B U)) [] := fun U hU => ⟨hw b B U (by omega) fun q hq => small (hU _).1 (hU _).2 hB.p bB q hq⟩
  have cA' : ∀ U : List Part, (∀ n, 0 ≤ gv U n ∧ gv U n ≤ 60 * B58) → Cal cf i5 [lenD a A, dicD U] (.int (a + wor A U)) [] := fun U hU => ⟨hw' a A U (by omega) fun q hq => small (hU _).1 (hU _).2 hA.p bA q hq⟩
  have cB' : ∀ U : List Part, (∀ n, 0 ≤ gv U n ∧ gv U n ≤ 60 * B58) → Cal cf i5 [lenD b B, dicD U] (.int (b + wor B U)) [] := fun U hU => ⟨hw' b B U (by omega) fun q hq => small (hU _).1 (hU _).2 hB.p bB q hq⟩
  have hfg : ∀ U ∈ far a b A B, ∀ n, 0 ≤ gv U n ∧ gv U n ≤ 60 * B58 := fun U hU n => by
    rcases List.mem_cons.mp hU with rfl | hU
    · show 0 ≤ (0 : Int) ∧ (0 : Int) ≤ _; omega
    · obtain ⟨m, _, rfl⟩ := List.mem_map.mp hU
      rw [gv_one]; split <;> omega
  have lF : LenB (far a b A B) := ⟨by have := nouAB_len A B; unfold far nms; rw [List.length_cons, List.length_map, List.length_map]; omega⟩
  have s1 := far_same hA hB a0 b0
  have s2 := far_below hA hB a0 b0
  obtain ⟨k1, n1, q1⟩ : ∃ k1, IsN d1 k1 ∧ (far a b A B).all (fun U => decide (a + wor A U = b + wor B U)) = k1 := by
    rcases h1 with ⟨z1, z2, rfl⟩ | ⟨z, T, rfl, _⟩
    · exact ⟨true, ⟨rfl⟩, s1.mpr ⟨z1, z2⟩⟩
    · exact ⟨false, ⟨rfl⟩, by cases h : (far a b A B).all (fun U => decide (a + wor A U = b + wor B U)) with | false => rfl | true => exact absurd (s1.mp h) z⟩
  have xx : ∀ z : Exc a b A B, (far a b A B).all (fun U => decide (a + wor A U ≤ b + wor B U)) = false := fun z => by
    cases h : (far a b A B).all (fun U => decide (a + wor A U ≤ b + wor B U)) with | false => rfl | true => exact absurd z (s2.mp h)
  obtain ⟨k2, n2, q2⟩ : ∃ k2, IsN d2 k2 ∧ (far a b A B).all (fun U => decide (a + wor A U ≤ b + wor B U)) = k2 := by
    rcases h2 with ⟨z, rfl⟩ | ⟨z, rfl⟩ | ⟨_, m, z, rfl⟩
    · exact ⟨true, ⟨rfl⟩, s2.mpr z⟩
    · exact ⟨false, ⟨rfl⟩, xx (.inl z)⟩
    · exact ⟨false, ⟨rfl⟩, xx (.inr ⟨m, z.1⟩)⟩
  refine wp_asg ?_
  have : Ev cf [some (lenD a A), some (lenD b B), some (.int k), some (.lst ((far a b A B).map dicD)), none, none, none, none, none] (c_l_right_1 i1) (.lst ((far a b A B).map fun U => .bl (decide (a + wor A U = b + wor B U)))) := ev_compM (e := dicD) (fun U => .bl (decide (a + wor A U = b + wor B U))) fun U hU => by
    have := cA U (hfg U hU)
    have := cB U (hfg U hU)
    exact ev_ok
  refine wp_asg ?_
  rw [q1]
  have : Ev cf [some (lenD a A), some (lenD b B), some (.int k), some (.lst ((far a b A B).map dicD)), some (.bl k1), none, none, none, none] (c_l_right_2 i1) (.lst ((far a b A B).map fun U => .bl (decide (a + wor A U ≤ b + wor B U)))) := ev_compM (e := dicD) (fun U => .bl (decide (a + wor A U ≤ b + wor B U))) fun U hU => by
    have := cA U (hfg U hU)
    have := cB U (hfg U hU)
    exact ev_ok
  refine wp_asg ?_
  rw [q2]
  refine wp_asg ?_
  refine wp_asg ?_
  refine wp_ifF ?_
  refine wp_nilT ?_
  refine wp_for (α := List Part) (fun pre e => ∃ o8, e = [some (lenD a A), some (lenD b B), some (.int k), some (.lst ((far a b A B).map dicD)), some (.bl k1), some (.bl k2), some d1, some d2, o8]) ⟨_, rfl⟩ ?_ ?_
  · rintro pre U post e hl ⟨o8, rfl⟩
    have hU := h4 U (by rw [← hl]; simp)
    have hU' : ∀ n, 0 ≤ gv U n ∧ gv U n ≤ 60 * B58 := fun n => by have := hU n; omega
    have := cA U hU'
    have := cA' U hU'
    have := cB' U hU'
    refine bnd_ok ?_
    have last : Wp cf [some (lenD a A), some (lenD b B), some (.int k), some (.lst ((far a b A B).map dicD)), some (.bl k1), some (.bl k2), some d1, some d2, some (dicD U)] [.iff (.op2 .ne (.call i5 [(.var 0), (.var 8)]) (.call i1 [(.var 0), (.var 8)])) [.ret (.lit (.bl false))] []] (Lp (fun e => ∃ o8, e = [some (lenD a A), some (lenD b B), some (.int k), some (.lst ((far a b A B).map dicD)), some (.bl k1), some (.bl k2), some d1, some d2, o8]) cf
        [.iff (.and_ (.op2 .isnot (.var 6) (.lit (.non))) (.op2 .eq (.call i1 [(.var 0), (.var 6)]) (.call i1 [(.var 1), (.var 6)]))) [.ret (.lit (.bl false))] [], .ret (.or_ (.op2 .is_ (.var 7) (.lit (.non))) (.op2 .gt (.call i1 [(.var 0), (.var 7)]) (.call i1 [(.var 1), (.var 7)])))] (Ends [] (.bl true, []))) := by
      have : Tru (a + wor A U = a + wor A U) := ⟨rfl⟩
      refine wp_ifF ?_
      refine wp_nilT ?_
      exact wp_nil ⟨_, rfl⟩
    refine wp_if_and ?_
    have snd : Wp cf [some (lenD a A), some (lenD b B), some (.int k), some (.lst ((far a b A B).map dicD)), some (.bl k1), some (.bl k2), some d1, some d2, some (dicD U)] [.iff (.and_ (.op2 .is_ (.var 7) (.lit (.non))) (.op2 .gt (.call i5 [(.var 0), (.var 8)]) (.call i5 [(.var 1), (.var 8)]))) [.ret (.lit (.bl false))] [], .iff (.op2 .ne (.call i5 [(.var 0), (.var 8)]) (.call i1 [(.var 0), (.var 8)])) [.ret (.lit (.bl false))] []] (Lp (fun e => ∃ o8, e = [some (lenD a A), some (lenD b B), some (.int k), some (.lst ((far a b A B).map dicD)), some (.bl k1), some (.bl k2), some d1, some d2, o8]) cf
        [.iff (.and_ (.op2 .isnot (.var 6) (.lit (.non))) (.op2 .eq (.call i1 [(.var 0), (.var 6)]) (.call i1 [(.var 1), (.var 6)]))) [.ret (.lit (.bl false))] [], .ret (.or_ (.op2 .is_ (.var 7) (.lit (.non))) (.op2 .gt (.call i1 [(.var 0), (.var 7)]) (.call i1 [(.var 1), (.var 7)])))] (Ends [] (.bl true, []))) := by
      refine wp_if_and ?_
      refine wp_if (fun hk => ?_) (fun hk => ?_)
      · rw [hk] at q2
        have hne := s2.mp q2
        have hab : a ≤ b := by
          by_cases c : a ≤ b
          · exact c
          · exact absurd (.inl (by omega)) hne
        have hg : ∀ n, gv A n ≤ gv B n := fun n => by
          by_cases c : gv A n ≤ gv B n
          · exact c
          · exact absurd (.inr ⟨n, by omega⟩) hne
        have hm := wor_mono hA hB hg fun n => (hU n).1
        have : Fls (b + wor B U < a + wor A U) := ⟨by omega⟩
        refine wp_ifF ?_
        refine wp_nilT ?_
        exact wp_nilT last
      · exact wp_nilT last
    refine wp_if (fun hk => ?_) (fun hk => ?_)
    · rw [hk] at q1
      obtain ⟨z1, z2⟩ := s1.mp q1
      have : Tru (a + wor A U = b + wor B U) := ⟨by rw [z1, z2]⟩
      refine wp_ifF ?_
      refine wp_nilT ?_
      exact wp_nilT snd
    · exact wp_nilT snd
  · rintro e ⟨o8, rfl⟩
    have fin : Wp cf [some (lenD a A), some (lenD b B), some (.int k), some (.lst ((far a b A B).map dicD)), some (.bl k1), some (.bl k2), some d1, some d2, o8] [.ret (.or_ (.op2 .is_ (.var 7) (.lit (.non))) (.op2 .gt (.call i1 [(.var 0), (.var 7)]) (.call i1 [(.var 1), (.var 7)])))] (Ends [] (.bl true, [])) := by
      rcases h2 with ⟨_, rfl⟩ | ⟨z, rfl⟩ | ⟨hab, m, z, rfl⟩
      · exact wp_ret rfl
      · have hg : ∀ n, gv (nouAB A B) n = 0 := nou_gv0 _
        have := cA (nouAB A B) fun n => by rw [hg]; omega
        have := cB (nouAB A B) fun n => by rw [hg]; omega
        have : Tru (b + wor B (nouAB A B) < a + wor A (nouAB A B)) := ⟨by rw [wor_zero hg, wor_zero hg]; omega⟩
        exact wp_ret rfl
      · have hg := gv_putnou A B m (stepV a b A B m)
        have v0 := stepV_pos (A := A) (B := B) z.1 hab
        have v1 := stepV_bd (A := A) (B := B) z.1 hab
        have := cA (putT (nouAB A B) m (stepV a b A B m)) fun n => by rw [hg]; split <;> omega
        have := cB (putT (nouAB A B) m (stepV a b A B m)) fun n => by rw [hg]; split <;> omega
        have vg := stepV_gt (a := a) (b := b) z.1
        have : Tru (b + wor B (putT (nouAB A B) m (stepV a b A B m)) < a + wor A (putT (nouAB A B) m (stepV a b A B m))) := ⟨by rw [wor_at hA.nd hg, wor_at hB.nd hg]; exact vg⟩
        exact wp_ret rfl
    rcases h1 with ⟨_, _, rfl⟩ | ⟨z, T, rfl, hT⟩
    · refine wp_ifF ?_
      exact wp_nilT fin
    · have bT : ∀ n, 0 ≤ gv T n ∧ gv T n ≤ 60 * B58 := fun n => by
        rcases hT.val with ⟨_, z⟩ | ⟨_, m, _, z⟩
        · rw [z]; omega
        · rw [z]; split <;> omega
      have := cA T bT
      have := cB T bT
      have : Fls (a + wor A T = b + wor B T) := ⟨by
        rcases hT.val with ⟨z, z2⟩ | ⟨z, m, z2, z3⟩
        · rw [wor_zero z2, wor_zero z2, Int.add_zero, Int.add_zero]; exact z
        · rw [wor_one hA.nd z3, wor_one hB.nd z3, z]
          intro e
          exact z2.1 (by omega)⟩
      refine wp_ifF ?_
      exact wp_nilT fin
theorem run_law07 {i0 i1 : Nat} {ns : List Int} (htwos : ∃ P : List Tw, cf i0 [.lst (ns.map D.int)] = some (.lst (P.map twoD), []) ∧ P.length ≤ 64 ∧ ∀ p ∈ P, TwOkB p)
    (hright : ∀ (a b k : Int) (A B : List Part), LgB 30 (B58 + 10) (21 * B58) a A → LgB 30 (B58 + 10) (21 * B58) b B → cf i1 [lenD a A, lenD b B, .int k] = some (.bl true, [])) :
    runD cf (f_law i0 i1) [.lst (ns.map D.int)] = some (.bl true, []) := by
  have hB58 : B58 = 10000000000000000000000000000000000000000000000000000000000 := rfl
  refine go_law _ _ ?_
  obtain ⟨P, e1, hP, hok⟩ := htwos
  have : Cal cf i0 [.lst (ns.map D.int)] (.lst (P.map twoD)) [] := ⟨e1⟩
  have : Pos 1009 := ⟨by decide⟩
  refine wp_for (α := Tw × Nat) (fun pre e => ∃ o1 o2, e = [some (.lst (ns.map D.int)), o1, o2]) ⟨_, _, rfl⟩ ?_ ?_
  · rintro pre ⟨p, i⟩ post e hl ⟨o1, o2, rfl⟩
    have hp : p ∈ P := by
      have : (p, i) ∈ P.zipIdx 0 := by rw [← hl]; simp
      exact List.fst_mem_of_mem_zipIdx this
    obtain ⟨g1, g2⟩ := hok p hp
    have g1 : LgB 30 (B58 + 10) (21 * B58) p.1.1 p.1.2 := ⟨⟨g1.lg.can, g1.lg.nn, by have := g1.lg.len; omega, fun q hq => by have := g1.lg.bd q hq; omega⟩, by have := g1.cb; omega⟩
    refine bnd_ok ?_
    have : ∀ k : Int, Cal cf i1 [lenD p.1.1 p.1.2, lenD p.2.1 p.2.2, .int k] (.bl true) [] := fun k => ⟨hright _ _ _ _ _ g1 g2⟩
    have : ∀ k : Int, Cal cf i1 [lenD p.2.1 p.2.2, lenD p.1.1 p.1.2, .int k] (.bl true) [] := fun k => ⟨hright _ _ _ _ _ g2 g1⟩
    refine wp_ifF ?_
    refine wp_nilT ?_
    exact wp_nil ⟨_, _, rfl⟩
  · rintro e ⟨o1, o2, rfl⟩
    exact wp_ret rfl
end
end PyI
end
section
set_option maxHeartbeats 0
namespace Lw
open PySem PySem.Spec PyProof.Rows L2 PyI
abbrev PP : Program := PySem.Challenge.pw_indexwise_k07_whole_for_all_numbers
def fd_worth : FDef := { name := "worth", ps := ["a", "numbers"], N := ["a", "numbers", "name", "times"], dfl := [], cls := [.F, .F], io := [], fresh := false, body := [
  .ret (.op2 .add (.op2 .ix (.var 0) (.lit (.int 0))) (.op1 .sum_ (.comp (.op2 .mul (.var 3) (.get2 (.var 1) (.var 2) (.lit (.int 0)))) (.tup [2, 3]) .of [(.op2 .ix (.var 0) (.lit (.int 1)))] [])))] }
def fd_names_of : FDef := { name := "names_of", ps := ["a"], N := ["a", "name", "times"], dfl := [], cls := [.F], io := [], fresh := false, body := [
  .ret (.comp (.var 1) (.tup [1, 2]) .of [(.op2 .ix (.var 0) (.lit (.int 1)))] [])] }
def fd_noughts : FDef := { name := "noughts", ps := ["a", "b"], N := ["a", "b", "found", "name"], dfl := [], cls := [.F, .F], io := [], fresh := true, body := [
  .asg 2 true (.dct [] []),
  .for_ (.name 3) .of [(.op1 .sorted_ (.op2 .add (.call 1 [(.var 0)]) (.call 1 [(.var 1)])))] [.setix 2 (.var 3) (.lit (.int 0))],
  .ret (.var 2)] }
def fd_parting : FDef := { name := "parting", ps := ["a", "b"], N := ["a", "b", "found", "unlike", "name"], dfl := [], cls := [.F, .F], io := [], fresh := false, body := [
  .iff (.op2 .eq (.var 0) (.var 1)) [.ret (.lit (.non))] [],
  .asg 2 true (.call 2 [(.var 0), (.var 1)]),
  .iff (.op2 .eq (.op2 .ix (.var 0) (.lit (.int 0))) (.op2 .ix (.var 1) (.lit (.int 0)))) [.asg 3 false (.comp (.var 4) (.name 4) .keys [(.var 2)] [(.op2 .ne (.get2 (.op1 .dict_ (.op2 .ix (.var 0) (.lit (.int 1)))) (.var 4) (.lit (.int 0))) (.get2 (.op1 .dict_ (.op2 .ix (.var 1) (.lit (.int 1)))) (.var 4) (.lit (.int 0))))]), .setix 2 (.op2 .ix (.var 3) (.lit (.int 0))) (.lit (.int 1))] [],
  .frz 2,
  .ret (.var 2)] }
def fd_exceeding : FDef := { name := "exceeding", ps := ["a", "b"], N := ["a", "b", "found", "name", "gap"], dfl := [], cls := [.F, .F], io := [], fresh := false, body := [
  .asg 2 true (.call 2 [(.var 0), (.var 1)]),
  .iff (.op2 .gt (.op2 .ix (.var 0) (.lit (.int 0))) (.op2 .ix (.var 1) (.lit (.int 0)))) [.frz 2, .ret (.var 2)] [],
  .for_ (.name 3) .of [(.op1 .list_ (.var 2))] [.asg 4 false (.op2 .sub (.get2 (.op1 .dict_ (.op2 .ix (.var 0) (.lit (.int 1)))) (.var 3) (.lit (.int 0))) (.get2 (.op1 .dict_ (.op2 .ix (.var 1) (.lit (.int 1)))) (.var 3) (.lit (.int 0)))), .iff (.op2 .gt (.var 4) (.lit (.int 0))) [.setix 2 (.var 3) (.op2 .add (.op2 .fdiv (.op2 .sub (.op2 .ix (.var 1) (.lit (.int 0))) (.op2 .ix (.var 0) (.lit (.int 0)))) (.var 4)) (.lit (.int 1))), .frz 2, .ret (.var 2)] []],
  .ret (.lit (.non))] }
def fd__law_cell_at : FDef := { name := "_law_cell_at", ps := ["_law_script", "_law_k"], N := ["_law_script", "_law_k"], dfl := [], cls := [.F, .F], io := [], fresh := false, body := [
  .iff (.op2 .lt (.var 1) (.op1 .len (.var 0))) [.ret (.op2 .ix (.var 0) (.var 1))] [],
  .ret (.lit (.int 0))] }
def fd__law_mixed : FDef := { name := "_law_mixed", ps := ["_law_cell", "_law_k"], N := ["_law_cell", "_law_k", "_law_number", "_law_j"], dfl := [], cls := [.F, .F], io := [], fresh := false, body := [
  .iff (.and_ (.op2 .eq (.op2 .mod (.var 0) (.lit (.int 2))) (.lit (.int 0))) (.op2 .gt (.var 0) (.op2 .pow (.lit (.int 10)) (.lit (.int 15))))) [.asg 2 false (.op2 .mod (.op2 .fdiv (.var 0) (.lit (.int 2))) (.op2 .pow (.lit (.int 10)) (.lit (.int 60)))), .for_ (.name 3) .range [(.op2 .mod (.var 1) (.lit (.int 8)))] [.asg 2 false (.op2 .fdiv (.var 2) (.lit (.int 97)))], .ret (.var 2)] [],
  .asg 2 false (.op2 .mod (.op2 .mul (.op2 .add (.op2 .add (.op2 .mod (.var 0) (.op2 .pow (.lit (.int 10)) (.lit (.int 60)))) (.op2 .mul (.lit (.int 7919)) (.var 1))) (.lit (.int 3))) (.lit (.int 69621))) (.lit (.int 2147483647))),
  .ret (.op2 .mod (.op2 .mul (.var 2) (.var 2)) (.lit (.int 2147483629)))] }
def fd__law_names : FDef := { name := "_law_names", ps := ["_law_cell"], N := ["_law_cell", "_law_some", "_law_mixed_here", "_law_stem", "_law_at", "_law_k"], dfl := [], cls := [.F], io := [], fresh := false, body := [
  .asg 1 false (.lit (.str "abcdefghijklmnopqrstuvwxyz")),
  .asg 2 false (.call 6 [(.var 0), (.lit (.int 99))]),
  .asg 3 false (.op2 .join (.lit (.str "")) (.comp (.op2 .ix (.var 1) (.op2 .mod (.call 6 [(.var 0), (.op2 .add (.lit (.int 90)) (.var 5))]) (.lit (.int 26)))) (.name 5) .range [(.op2 .mod (.var 2) (.lit (.int 8)))] [])),
  .asg 4 false (.op2 .mod (.op2 .fdiv (.var 2) (.lit (.int 8))) (.op2 .add (.op1 .len (.var 3)) (.lit (.int 1)))),
  .ret (.comp (.op2 .add (.op2 .add (.slice (.var 3) none (some (.var 4))) (.op2 .ix (.var 1) (.op2 .mod (.op2 .add (.op2 .fdiv (.var 2) (.lit (.int 72))) (.op2 .mul (.lit (.int 5)) (.var 5))) (.lit (.int 26))))) (.slice (.var 3) (some (.var 4)) none)) (.name 5) .range [(.lit (.int 5))] [])] }
def fd__law_made : FDef := { name := "_law_made", ps := ["_law_count", "_law_times"], N := ["_law_count", "_law_times", "_law_name"], dfl := [], cls := [.F, .F], io := [], fresh := false, body := [
  .ret (.tup [(.var 0), (.op1 .tuple_ (.op1 .sorted_ (.comp (.tup [(.var 2), (.op2 .ix (.var 1) (.var 2))]) (.name 2) .keys [(.var 1)] [(.op2 .gt (.op2 .ix (.var 1) (.var 2)) (.lit (.int 0)))])))])] }
def fd__law_drawn : FDef := { name := "_law_drawn", ps := ["_law_cells", "_law_names_here"], N := ["_law_cells", "_law_names_here", "_law_count", "_law_times", "_law_k", "_law_cell", "_law_mixed_here", "_law_many"], dfl := [], cls := [.F, .F], io := [], fresh := false, body := [
  .asg 2 false (.lit (.int 0)),
  .asg 3 true (.dct [] []),
  .for_ (.tup [4, 5]) .enum [(.var 0)] [.asg 6 false (.call 6 [(.var 5), (.var 4)]), .asg 7 false (.op2 .ix (.lst [(.op2 .mod (.op2 .fdiv (.var 6) (.lit (.int 40))) (.lit (.int 4))), (.op2 .mod (.op2 .fdiv (.var 6) (.lit (.int 40))) (.lit (.int 100))), (.op2 .mod (.var 5) (.op2 .pow (.lit (.int 10)) (.lit (.int 58)))), (.lit (.int 1))]) (.op2 .mod (.op2 .fdiv (.var 6) (.lit (.int 8))) (.lit (.int 4)))), .iff (.op2 .lt (.op2 .mod (.var 6) (.lit (.int 8))) (.lit (.int 2))) [.asg 2 false (.op2 .add (.var 2) (.var 7))] [.setix 3 (.op2 .ix (.var 1) (.op2 .mod (.var 6) (.lit (.int 5)))) (.var 7)]],
  .frz 3,
  .ret (.call 8 [(.var 2), (.var 3)])] }
def fd__law_other : FDef := { name := "_law_other", ps := ["_law_a", "_law_cells", "_law_names_here"], N := ["_law_a", "_law_cells", "_law_names_here", "_law_mixed_here", "_law_times", "_law_way", "_law_name"], dfl := [], cls := [.F, .F, .F], io := [], fresh := false, body := [
  .asg 3 false (.call 6 [(.op1 .sum_ (.var 1)), (.lit (.int 70))]),
  .asg 4 true (.op1 .dict_ (.op2 .ix (.var 0) (.lit (.int 1)))),
  .asg 5 false (.op2 .mod (.var 3) (.lit (.int 6))),
  .iff (.op2 .eq (.var 5) (.lit (.int 0))) [.ret (.call 9 [(.var 1), (.var 2)])] [],
  .iff (.op2 .eq (.var 5) (.lit (.int 1))) [.ret (.tup [(.op2 .ix (.var 0) (.lit (.int 0))), (.op2 .ix (.var 0) (.lit (.int 1)))])] [],
  .iff (.op2 .eq (.var 5) (.lit (.int 2))) [.frz 4, .ret (.call 8 [(.op2 .add (.op2 .ix (.var 0) (.lit (.int 0))) (.op2 .mod (.op2 .fdiv (.var 3) (.lit (.int 6))) (.lit (.int 3)))), (.var 4)])] [],
  .iff (.op2 .eq (.var 5) (.lit (.int 3))) [.frz 4, .ret (.call 8 [(.op2 .fdiv (.op2 .ix (.var 0) (.lit (.int 0))) (.op2 .add (.lit (.int 1)) (.op2 .mod (.op2 .fdiv (.var 3) (.lit (.int 6))) (.lit (.int 3))))), (.var 4)])] [],
  .asg 6 false (.op2 .ix (.var 2) (.op2 .mod (.op2 .fdiv (.var 3) (.lit (.int 6))) (.lit (.int 5)))),
  .iff (.op2 .eq (.var 5) (.lit (.int 4))) [.setix 4 (.var 6) (.op2 .add (.get2 (.var 4) (.var 6) (.lit (.int 0))) (.op2 .mod (.op2 .fdiv (.var 3) (.lit (.int 30))) (.lit (.int 3))))] [],
  .iff (.op2 .eq (.var 5) (.lit (.int 5))) [.setix 4 (.var 6) (.op2 .max2 (.lit (.int 0)) (.op2 .sub (.op2 .sub (.get2 (.var 4) (.var 6) (.lit (.int 0))) (.lit (.int 1))) (.op2 .mod (.op2 .fdiv (.var 3) (.lit (.int 30))) (.lit (.int 3)))))] [],
  .frz 4,
  .ret (.call 8 [(.op2 .ix (.lst [(.op2 .ix (.var 0) (.lit (.int 0))), (.op2 .add (.op2 .ix (.var 0) (.lit (.int 0))) (.op2 .mod (.op2 .fdiv (.var 3) (.lit (.int 90))) (.lit (.int 30)))), (.op2 .fdiv (.op2 .ix (.var 0) (.lit (.int 0))) (.lit (.int 2)))]) (.op2 .mod (.op2 .fdiv (.var 3) (.lit (.int 2700))) (.lit (.int 3)))), (.var 4)])] }
def fd__law_twos : FDef := { name := "_law_twos", ps := ["_law_script"], N := ["_law_script", "_law_names_here", "_law_found", "_law_at", "_law_a"], dfl := [], cls := [.F], io := [], fresh := false, body := [
  .asg 1 false (.call 7 [(.call 5 [(.var 0), (.lit (.int 0))])]),
  .asg 2 true (.lst []),
  .for_ (.name 3) .range [(.lit (.int 1)), (.op2 .max2 (.lit (.int 2)) (.op1 .len (.var 0))), (.lit (.int 8))] [.asg 4 false (.call 9 [(.slice (.var 0) (some (.var 3)) (some (.op2 .add (.var 3) (.lit (.int 6))))), (.var 1)]), .app 2 (.tup [(.var 4), (.call 10 [(.var 4), (.slice (.var 0) (some (.op2 .add (.var 3) (.lit (.int 4)))) (some (.op2 .add (.var 3) (.lit (.int 8))))), (.var 1)])])],
  .frz 2,
  .ret (.var 2)] }
def fd__law_worth : FDef := { name := "_law_worth", ps := ["_law_a", "_law_numbers"], N := ["_law_a", "_law_numbers", "_law_name", "_law_times"], dfl := [], cls := [.F, .F], io := [], fresh := false, body := [
  .ret (.op2 .add (.op2 .ix (.var 0) (.lit (.int 0))) (.op1 .sum_ (.comp (.op2 .mul (.var 3) (.get2 (.var 1) (.var 2) (.lit (.int 0)))) (.tup [2, 3]) .of [(.op2 .ix (.var 0) (.lit (.int 1)))] [])))] }
def fd__law_far : FDef := { name := "_law_far", ps := ["_law_a", "_law_b"], N := ["_law_a", "_law_b", "_law_names_here", "_law_great", "_law_name", "_law_many"], dfl := [], cls := [.F, .F], io := [], fresh := false, body := [
  .asg 2 false (.op1 .ssort (.comp (.var 4) (.tup [4, 5]) .of [(.op2 .add (.op2 .ix (.var 0) (.lit (.int 1))) (.op2 .ix (.var 1) (.lit (.int 1))))] [])),
  .asg 3 false (.op2 .add (.op2 .add (.op2 .ix (.var 0) (.lit (.int 0))) (.op2 .ix (.var 1) (.lit (.int 0)))) (.lit (.int 1))),
  .ret (.op2 .add (.lst [(.dct [] [])]) (.comp (.dct [(.var 4)] [(.var 3)]) (.name 4) .of [(.var 2)] []))] }
def fd__law_near : FDef := { name := "_law_near", ps := ["_law_a", "_law_b", "_law_k"], N := ["_law_a", "_law_b", "_law_k", "_law_found", "_law_turn", "_law_numbers", "_law_j", "_law_part"], dfl := [], cls := [.F, .F, .F], io := [], fresh := false, body := [
  .asg 3 true (.lst []),
  .for_ (.name 4) .range [(.lit (.int 4))] [.asg 5 true (.dct [] []), .for_ (.tup [6, 7]) .enum [(.op2 .add (.op2 .ix (.var 0) (.lit (.int 1))) (.op2 .ix (.var 1) (.lit (.int 1))))] [.setix 5 (.op2 .ix (.var 7) (.lit (.int 0))) (.op2 .mod (.call 6 [(.op2 .add (.op2 .mul (.lit (.int 2)) (.var 2)) (.lit (.int 1))), (.op2 .add (.op2 .mul (.lit (.int 8)) (.var 4)) (.var 6))]) (.lit (.int 61)))], .frz 5, .app 3 (.var 5)],
  .frz 3,
  .ret (.var 3)] }
def fd__law_right : FDef := { name := "_law_right", ps := ["_law_a", "_law_b", "_law_k"], N := ["_law_a", "_law_b", "_law_k", "_law_far_here", "_law_same", "_law_below", "_law_parted", "_law_passed", "_law_numbers"], dfl := [], cls := [.F, .F, .F], io := [], fresh := false, body := [
  .asg 3 false (.call 13 [(.var 0), (.var 1)]),
  .asg 4 false (.op1 .all_ (.comp (.op2 .eq (.call 12 [(.var 0), (.var 8)]) (.call 12 [(.var 1), (.var 8)])) (.name 8) .of [(.var 3)] [])),
  .asg 5 false (.op1 .all_ (.comp (.op2 .le (.call 12 [(.var 0), (.var 8)]) (.call 12 [(.var 1), (.var 8)])) (.name 8) .of [(.var 3)] [])),
  .asg 6 false (.call 3 [(.var 0), (.var 1)]),
  .asg 7 false (.call 4 [(.var 0), (.var 1)]),
  .iff (.or_ (.op2 .ne (.op2 .is_ (.var 6) (.lit (.non))) (.var 4)) (.op2 .ne (.op2 .is_ (.var 7) (.lit (.non))) (.var 5))) [.ret (.lit (.bl false))] [],
  .for_ (.name 8) .of [(.call 14 [(.var 0), (.var 1), (.var 2)])] [.iff (.and_ (.op2 .is_ (.var 6) (.lit (.non))) (.op2 .ne (.call 0 [(.var 0), (.var 8)]) (.call 0 [(.var 1), (.var 8)]))) [.ret (.lit (.bl false))] [], .iff (.and_ (.op2 .is_ (.var 7) (.lit (.non))) (.op2 .gt (.call 0 [(.var 0), (.var 8)]) (.call 0 [(.var 1), (.var 8)]))) [.ret (.lit (.bl false))] [], .iff (.op2 .ne (.call 0 [(.var 0), (.var 8)]) (.call 12 [(.var 0), (.var 8)])) [.ret (.lit (.bl false))] []],
  .iff (.and_ (.op2 .isnot (.var 6) (.lit (.non))) (.op2 .eq (.call 12 [(.var 0), (.var 6)]) (.call 12 [(.var 1), (.var 6)]))) [.ret (.lit (.bl false))] [],
  .ret (.or_ (.op2 .is_ (.var 7) (.lit (.non))) (.op2 .gt (.call 12 [(.var 0), (.var 7)]) (.call 12 [(.var 1), (.var 7)])))] }
def fd_law : FDef := { name := "law", ps := ["_law_script"], N := ["_law_script", "_law_k", "_law_two"], dfl := [], cls := [.F], io := [], fresh := false, body := [
  .for_ (.tup [1, 2]) .enum [(.call 11 [(.var 0)])] [.iff (.or_ (.op1 .not_ (.call 15 [(.op2 .ix (.var 2) (.lit (.int 0))), (.op2 .ix (.var 2) (.lit (.int 1))), (.op2 .add (.var 1) (.op2 .mod (.op2 .ix (.op2 .ix (.var 2) (.lit (.int 0))) (.lit (.int 0))) (.lit (.int 1009))))])) (.op1 .not_ (.call 15 [(.op2 .ix (.var 2) (.lit (.int 1))), (.op2 .ix (.var 2) (.lit (.int 0))), (.var 1)]))) [.ret (.lit (.bl false))] []],
  .ret (.lit (.bl true))] }
def fds : List FDef := [fd_worth, fd_names_of, fd_noughts, fd_parting, fd_exceeding, fd__law_cell_at, fd__law_mixed, fd__law_names, fd__law_made, fd__law_drawn, fd__law_other, fd__law_twos, fd__law_worth, fd__law_far, fd__law_near, fd__law_right, fd_law]
def st : Stat := { N := [], fds := fds, blt := ["all", "dict", "enumerate", "len", "list", "max", "range", "set", "sorted", "sum", "tuple"], consts := [] }
def fn : List He.DefD := defsOf PP.main.body
def fa : List He.Fa := [.free "all", .free "dict", .free "enumerate", .free "len", .free "list", .free "max", .free "range", .free "set", .free "sorted", .free "sum", .free "tuple"] ++ fn.map fun d => .glo d.name
abbrev R : PySem.W.OpenRow := PySem.W.OpenLaw.row PySem.Challenge.rw_indexwise_k07_whole_for_all_numbers
abbrev hk : PySem.W.Hook := He.hookD 4 fa fn
def ob (s : PySem.W.SharedT) : He.AlD := He.obsDG 4 fa fn (HandSHeadRun.getT s)
theorem ob_eq (s : PySem.W.SharedT) : ob s = hk.obs s.abs := He.obsDG_eq (HandSHeadRun.getT_eq s)
def names : List Str := ["worth", "names_of", "noughts", "parting", "exceeding", "_law_cell_at", "_law_mixed", "_law_names", "_law_made", "_law_drawn", "_law_other", "_law_twos", "_law_worth", "_law_far", "_law_near", "_law_right"]
theorem run (w : World) : HandSHeadRun.RunEq R (PySem.W.view R.prog [18]) hk ob 2000 names w := by
  intro os
  kernel_rfl
theorem chk : chkTop st fa fn = true := by decide +kernel
theorem bnd : BindDs fds fn := ⟨.inl ⟨rfl, rfl, fun _ _ _ _ _ _ _ _ _ _ us hl => match us, hl with | [_, _], _ => rfl⟩, .inl ⟨rfl, rfl, fun _ _ _ _ _ _ _ _ _ _ us hl => match us, hl with | [_], _ => rfl⟩, .inl ⟨rfl, rfl, fun _ _ _ _ _ _ _ _ _ _ us hl => match us, hl with | [_, _], _ => rfl⟩, .inl ⟨rfl, rfl, fun _ _ _ _ _ _ _ _ _ _ us hl => match us, hl with | [_, _], _ => rfl⟩, .inl ⟨rfl, rfl, fun _ _ _ _ _ _ _ _ _ _ us hl => match us, hl with | [_, _], _ => rfl⟩, .inl ⟨rfl, rfl, fun _ _ _ _ _ _ _ _ _ _ us hl => match us, hl with | [_, _], _ => rfl⟩, .inl ⟨rfl, rfl, fun _ _ _ _ _ _ _ _ _ _ us hl => match us, hl with | [_, _], _ => rfl⟩, .inl ⟨rfl, rfl, fun _ _ _ _ _ _ _ _ _ _ us hl => match us, hl with | [_], _ => rfl⟩, .inl ⟨rfl, rfl, fun _ _ _ _ _ _ _ _ _ _ us hl => match us, hl with | [_, _], _ => rfl⟩, .inl ⟨rfl, rfl, fun _ _ _ _ _ _ _ _ _ _ us hl => match us, hl with | [_, _], _ => rfl⟩, .inl ⟨rfl, rfl, fun _ _ _ _ _ _ _ _ _ _ us hl => match us, hl with | [_, _, _], _ => rfl⟩, .inl ⟨rfl, rfl, fun _ _ _ _ _ _ _ _ _ _ us hl => match us, hl with | [_], _ => rfl⟩, .inl ⟨rfl, rfl, fun _ _ _ _ _ _ _ _ _ _ us hl => match us, hl with | [_, _], _ => rfl⟩, .inl ⟨rfl, rfl, fun _ _ _ _ _ _ _ _ _ _ us hl => match us, hl with | [_, _], _ => rfl⟩, .inl ⟨rfl, rfl, fun _ _ _ _ _ _ _ _ _ _ us hl => match us, hl with | [_, _, _], _ => rfl⟩, .inl ⟨rfl, rfl, fun _ _ _ _ _ _ _ _ _ _ us hl => match us, hl with | [_, _, _], _ => rfl⟩, .inl ⟨rfl, rfl, fun _ _ _ _ _ _ _ _ _ _ us hl => match us, hl with | [_], _ => rfl⟩, trivial⟩
end Lw
namespace Lw
open PySem PyI
def fuel : Nat := 20
theorem cal_cell (n : Nat) (ns : List Int) (k : Nat) : callF st.fds (n + 1) 5 [.lst (ns.map D.int), .int k] = some (.int (cellAt ns k), []) := (callF_at0 rfl rfl).trans run_cellAt
theorem cal_mixed (n : Nat) (c k : Int) : callF st.fds (n + 1) 6 [.int c, .int k] = some (.int (mixed c k), []) := (callF_at0 rfl rfl).trans run_mixed
instance ci_mixed (n : Nat) (c k : Int) : Cal (callF st.fds (n + 1)) 6 [.int c, .int k] (.int (mixed c k)) [] := ⟨cal_mixed n c k⟩
theorem cal_names (n : Nat) (c : Int) : callF st.fds (n + 2) 7 [.int c] = some (.lst ((namesU c).map fun l => .str (tx l)), []) := (callF_at0 rfl rfl).trans (run_namesU (m := 6) (cal_mixed n))
theorem cal_made (n : Nat) (c : Int) (T : List Part) (hn : (T.map (·.1)).Nodup) (hB : T.length ≤ BIG) : callF st.fds (n + 1) 8 [.int c, dicD T] = some (lenD c (madeL T), []) := (callF_at0 rfl rfl).trans (run_made hn hB)
instance ci_made (n : Nat) (c : Int) (T : List Part) [p : NdP T] [q : LenB T] : Cal (callF st.fds (n + 1)) 8 [.int c, dicD T] (lenD c (madeL T)) [] := ⟨cal_made n c T p.h (by have := q.h; unfold BIG; omega)⟩
theorem cal_drawn (n : Nat) (N : List (List Nat)) (ms : List Int) (h5 : N.length = 5) (hl : ms.length ≤ 900) : ∃ c T, callF st.fds (n + 2) 9 [.lst (ms.map D.int), .lst (N.map fun l => D.str (tx l))] = some (lenD c (madeL T), []) ∧ DrawI N c T ms.length := by
  obtain ⟨c, T, h, I⟩ := run_drawn (cf := callF st.fds (n + 1)) (mi := 6) (md := 8) (cal_mixed n) (cal_made n) h5 hl
  exact ⟨c, T, (callF_at0 rfl rfl).trans h, I⟩
theorem cal_namesOf (n : Nat) (c : Int) (L : List Part) (hB : L.length ≤ BIG) : callF st.fds (n + 1) 1 [lenD c L] = some (.lst (L.map fun q => .str (tx q.1)), []) := (callF_at0 rfl rfl).trans (run_namesOf hB)
theorem cal_noughts (n : Nat) (a b : Int) (A B : List Part) (la : A.length ≤ 1000) (lb : B.length ≤ 1000) : callF st.fds (n + 2) 2 [lenD a A, lenD b B] = some (dicD (nouAB A B), []) := (callF_at0 rfl rfl).trans (run_noughts (i := 1) la lb (cal_namesOf n))
theorem cal_otherB (n : Nat) (N : List (List Nat)) (ms : List Int) (c : Int) (L : List Part) (h5 : N.length = 5) (hl : ms.length ≤ 20) (G : LgB 20 B58 (20 * B58) c L) : ∃ c' L', callF st.fds (n + 3) 10 [lenD c L, .lst (ms.map D.int), .lst (N.map fun l => D.str (tx l))] = some (lenD c' L', []) ∧ LgB 30 (B58 + 10) (21 * B58) c' L' := by
  obtain ⟨x, h, c', L', rfl, g⟩ := run_l_otherB (cf := callF st.fds (n + 2)) (im := 6) (idr := 9) (imd := 8) (N := N) (ms := ms) (hmd := fun c T _ _ => ci_made _ c T) (cal_drawn n) h5 hl G
  exact ⟨c', L', (callF_at0 rfl rfl).trans h, g⟩
theorem cal_twosB (n : Nat) (ns : List Int) (hl : ns.length ≤ 63) : ∃ P : List Tw, callF st.fds (n + 4) 11 [.lst (ns.map D.int)] = some (.lst (P.map twoD), []) ∧ P.length ≤ 64 ∧ ∀ p ∈ P, TwOkB p := by
  obtain ⟨x, h, P, rfl, g⟩ := run_l_twosB (cf := callF st.fds (n + 3)) (i0 := 7) (i1 := 5) (i2 := 9) (i3 := 10) hl (fun c => ⟨_, namesU_len c, cal_names (n + 1) c⟩) (cal_cell (n + 2) ns) (cal_drawn (n + 1)) (cal_otherB n)
  exact ⟨P, (callF_at0 rfl rfl).trans h, g⟩
theorem cal_exc (n : Nat) (a b : Int) (A B : List Part) (hA : LgB 30 (B58 + 10) (21 * B58) a A) (hB : LgB 30 (B58 + 10) (21 * B58) b B) : ∃ d, callF st.fds (n + 3) 4 [lenD a A, lenD b B] = some (d, []) ∧ ExcS a b A B d := by
  have h30 := hA.lg.len
  have h31 := hB.lg.len
  obtain ⟨x, h, r⟩ := run_exceeding (cf := callF st.fds (n + 2)) (i := 2) hA.lg.can hB.lg.can (by omega) (by omega) (fun q hq => Int.le_trans (hA.lg.bd q hq) (by decide)) (cal_noughts n a b A B (by omega) (by omega))
  obtain ⟨d, rfl, e⟩ := excS_of hB.lg.can r
  exact ⟨d, (callF_at0 rfl rfl).trans h, e⟩
theorem cal_parting (n : Nat) (a b : Int) (A B : List Part) (hA : Can A) (hB : Can B) (la : A.length ≤ 400) (lb : B.length ≤ 400) : ∃ d, callF st.fds (n + 3) 3 [lenD a A, lenD b B] = some (d, []) ∧ ((a = b ∧ A = B ∧ d = .non) ∨ (¬ (a = b ∧ A = B) ∧ ∃ T, d = dicD T ∧ DueS a b A B T)) := by
  obtain ⟨x, h, r⟩ := run_parting (cf := callF st.fds (n + 2)) (i := 2) hA hB la lb (cal_noughts n a b A B (by omega) (by omega))
  rcases r with ⟨h1, h2, rfl⟩ | ⟨h1, T, rfl, h2⟩
  · exact ⟨_, (callF_at0 rfl rfl).trans h, .inl ⟨h1, h2, rfl⟩⟩
  · exact ⟨_, (callF_at0 rfl rfl).trans h, .inr ⟨h1, T, rfl, h2⟩⟩
theorem cal_near (n : Nat) (a b k : Int) (A B : List Part) (la : A.length ≤ 400) (lb : B.length ≤ 400) : ∃ L : List (List Part), callF st.fds (n + 2) 14 [lenD a A, lenD b B, .int k] = some (.lst (L.map dicD), []) ∧ L.length ≤ 4 ∧ ∀ U ∈ L, ∀ n, 0 ≤ gv U n ∧ gv U n ≤ 60 := by
  obtain ⟨x, h, L, rfl, e⟩ := run_l_near (cf := callF st.fds (n + 1)) (im := 6) (a := a) (b := b) (k := k) la lb
  exact ⟨L, (callF_at0 rfl rfl).trans h, e⟩
theorem cal_right (n : Nat) (a b k : Int) (A B : List Part) (hA : LgB 30 (B58 + 10) (21 * B58) a A) (hB : LgB 30 (B58 + 10) (21 * B58) b B) : callF st.fds (n + 4) 15 [lenD a A, lenD b B, .int k] = some (.bl true, []) := by
  have h30 := hA.lg.len
  have h31 := hB.lg.len
  exact (callF_at0 rfl rfl).trans (run_l_right7 (i0 := 13) (i1 := 12) (i2 := 3) (i3 := 4) (i4 := 14) (i5 := 0) hA.lg.can hB.lg.can (by omega) (by omega) hA.lg.bd hB.lg.bd hA.lg.nn hB.lg.nn hA.cb hB.cb
    ((callF_at0 rfl rfl).trans (run_l_far (by omega) (by omega))) (fun a A U h hU => (callF_at0 rfl rfl).trans (run_l_worth h hU)) (cal_parting n a b A B hA.lg.can hB.lg.can (by omega) (by omega)) (cal_exc n a b A B hA hB) (cal_near (n + 1) a b k A B (by omega) (by omega))
    (fun a A U h hU => (callF_at0 (fd := f_worth) rfl rfl).trans (run_l_worth h hU)))
theorem pure (ns : List Int) (h : ns.length ≤ 63) : callF st.fds fuel 16 [.lst (ns.map D.int)] = some (.bl true, []) :=
  (callF_at0 rfl rfl).trans (run_law07 (i0 := 11) (i1 := 15) (cal_twosB 15 ns h) (cal_right 15))
end Lw

section
open PySem PySem.W PySem.Calls PyProof.Rows
theorem PySem.Challenge.cw_indexwise_k07_whole_for_all_numbers_holds : PySem.Challenge.rw_indexwise_k07_whole_for_all_numbers.Holds := by
  w_on; o_law
  refine HandSHeadRun.head_any (r := OpenLaw.row PySem.Challenge.rw_indexwise_k07_whole_for_all_numbers) (q := view (OpenLaw.row PySem.Challenge.rw_indexwise_k07_whole_for_all_numbers).prog [18]) (H := Lw.hk) (ob := Lw.ob) (M := 2000) (loose := Lw.names) (d := HandSHeadRun.topDef (OpenLaw.row PySem.Challenge.rw_indexwise_k07_whole_for_all_numbers).prog 18) (kwd := []) Lw.ob_eq
    (by kernel_rfl) (fun s => by kernel_rfl) Lw.run (by kernel_rfl) (by kernel_rfl) (by kernel_rfl) (by rfl) (by first | assumption | decide +kernel) (by decide +kernel) ⟨rfl, rfl, rfl, rfl, rfl, by decide +kernel⟩ ?hw ?hc
  case hw => w_witness2
  case hc =>
    refine L2.walk_ofE (l := PySem.Challenge.rw_indexwise_k07_whole_for_all_numbers) (n := 63) (k := Lw.fuel + 1) (x := "_law_script") (CX := L2.CX0) rfl (by decide) (by kernel_rfl) ⟨rfl, by decide, by decide⟩ ?F (fun _ _ _ _ z => z)
    intro w mg fa h Y G hmg0
    obtain ⟨K, KX, c⟩ := Y
    have hmg : mg ("law" : PySem.Str) = some (.ref fa) := by
      have e : (HandSHeadRun.topDef (OpenLaw.row PySem.Challenge.rw_indexwise_k07_whole_for_all_numbers).prog 18).name = ("law" : PySem.Str) := by kernel_rfl
      rw [← e]
      exact hmg0
    obtain ⟨fdt, hb, hF⟩ := PyI.law_end (S := Lw.st) (fd := Lw.fd_law) (x := "_law_script") c KX G Lw.chk Lw.bnd Lw.fuel 16 rfl rfl rfl hmg
    exact ⟨K, fdt, _, KX, hb, fun H a ns hl _ hS => PyI.sp_law (S := Lw.st) (fd := Lw.fd_law) rfl rfl rfl rfl hS (Lw.pure ns hl) _, fun base _ _ => hF _ w base⟩
end
end
