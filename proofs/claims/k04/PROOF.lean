import PyProof.Rows.All
import Wide.All
import OpenK.AllK
import Wide.FinOn
import HandS.ForMost
import HandS.Flow
import HandS.Style
import HandS.Wide
import HandS.IsInst
import HandS.Zip
import HandS.Exc
import HandS.TryOnly
import HandS.ExcSuper
import HandS.CallSlots
import HandS.EndBits
import HandS.Base
import HandS.Call
import HandS.WideBits
import PyProof.StrOps2
import HandS.TupAny
import PyProof.FString5
import PyProof.CallStr
import OpenK.KOwn
import HandS.More
import HandS.Iter
import PyProof.Draws
import PyProof.EnumMake
import PyProof.CollectStr
import PyProof.Rows.SortStr
import HandS.SortInts
import HandS.SetFor
import HandS.WordsDict
import PyProof.Rows.StrMeet
import KE.KExcIs
import HandS.ExcField
import HandS.ExcIs
import KE.KExcSuper
import HandS.ExcInit
import KE.KSuper
import HandS.Strs
import KE.KRevSl
import PyProof.SliceStr2
import HandS.Text
import HandS.Conv
import HandS.Small
import HandS.Codes
import PySem.Challenge.RW_lonehall_k04_fractions_refused
set_option autoImplicit false
set_option Elab.async false
set_option linter.all false
set_option maxRecDepth 100000
set_option maxHeartbeats 8000000
/-! TL0: a small language of data trees, and what it computes (no heap, no program). -/
namespace TL
open PySem

abbrev D := PyData
/-- what is no data, as data: a def, a class, an exception of class c with the fields fs -/
def fnD (i : Nat) : D := .dict [(.list [], .int (i : Int))]
def clD (i : Nat) : D := .dict [(.list [.none], .int (i : Int))]
def exD (c : Nat) (fs : List D) : D := .dict [(.list [.int (c : Int)], .list fs)]
def asFn : D → Option Nat
  | .dict [(.list [], .int i)] => some i.toNat
  | _ => none
def asEx : D → Option (Nat × List D)
  | .dict [(.list [.int c], .list fs)] => some (c.toNat, fs)
  | _ => none
/-- the kinds of dicts: keys are ints and texts; tuples; it is no dict -/
inductive DKd where
  | k | n | w
  deriving DecidableEq
def dkd : List (D × D) → DKd
  | [] => .k
  | (.tuple _, _) :: _ => .n
  | (.list _, _) :: _ => .w
  | _ :: _ => .k
def okK (ds : List (D × D)) : Bool := decide (dkd ds = .k)
mutual
/-- all dicts in it are of the first kind -/
def plainD : D → Bool
  | .none => true
  | .bool _ => true
  | .int _ => true
  | .str _ => true
  | .list xs => plainA xs
  | .tuple xs => plainA xs
  | .dict kvs => okK kvs && plainK kvs
def plainA : List D → Bool
  | [] => true
  | x :: r => plainD x && plainA r
def plainK : List (D × D) → Bool
  | [] => true
  | (_, v) :: r => plainD v && plainK r
end

/-- a place of a frame: not bound; shared data; a list or dict that this frame alone holds; such a one that may only be read now; a parameter that the caller lends for writing -/
inductive Slot where
  | un
  | sh (d : D)
  | ow (d : D)
  | lk (d : D)
  | io (d : D)
abbrev Gv := List Slot

inductive Rs (α : Type) where
  | bad
  | ex (c : Nat) (fs : List D) (g : Gv)
  | ok (a : α) (g : Gv)
def Rs.bind {α β : Type} (r : Rs α) (f : α → Gv → Rs β) : Rs β :=
  match r with
  | .bad => .bad
  | .ex c fs g => .ex c fs g
  | .ok a g => f a g

/-- what an expression gives: data (own: a new object that nobody else holds), or a name's place, to be read -/
inductive Op where
  | val (d : D) (own : Bool)
  | slot (i : Nat)

def Slot.get : Slot → Option D
  | .un => none
  | .sh d => some d
  | .ow d => some d
  | .lk d => some d
  | .io d => some d
def look (g : Gv) (i : Nat) : Option D :=
  match g[i]? with
  | some s => s.get
  | none => none
def Op.res (o : Op) (g : Gv) : Option D :=
  match o with
  | .val d _ => some d
  | .slot i => look g i

/-- what a call gives -/
inductive An where
  | bad
  | ex (c : Nat) (fs : List D) (io : Option D)
  | ok (d : D) (own : Bool) (io : Option D)
abbrev Calls := Nat → List Slot → An

/-! ### values -/
def truth : D → Option Bool
  | .none => some false
  | .bool b => some b
  | .int i => some (i != 0)
  | .str x => if x.length ≤ sizeLine then some (x.length != 0) else none
  | .list xs => some (!xs.isEmpty)
  | .tuple xs => some (!xs.isEmpty)
  | .dict _ => none

/-- how far two data may be compared by the library -/
def eqOk (d : D) : Bool := SeqAt.shaped d
def mulOk (i j : Int) : Bool := decide (i.natAbs.log2 + j.natAbs.log2 < 1000000)
def divOk (j : Int) : Bool := (j != 0) && decide (j.natAbs.log2 < 9000)
def powOk (i j : Int) : Bool := decide (0 ≤ j) && decide (((i.natAbs.log2 + 1 : Nat) : Int) * j ≤ 2 ^ 27)

def rep (k : Int) (xs : List D) : List D := (List.replicate k.toNat xs).flatten
def repOk (k : Int) (n : Nat) : Bool := decide (-(2 ^ 63) ≤ k) && decide (k < 2 ^ 63) && decide (n * k.toNat ≤ sizeLine)

def repS (k : Int) (x : Str) : Str := ⟨((List.replicate k.toNat x.cps.toList).flatten).toArray⟩
def shlOk (i j : Int) : Bool := decide (0 ≤ j) && decide ((Builtin.Int.intBits i : Int) + j ≤ 2 ^ 27)
/-- keys of dicts -/
def keyOf : D → Option L2.Key
  | .int i => some (.inl i)
  | .str x => some (.inr x)
  | _ => none
def kEq : D → L2.Key → Bool
  | .int i, .inl j => i == j
  | .str x, .inr y => decide (x = y)
  | _, _ => false
def dgetD : List (D × D) → L2.Key → Option D
  | [], _ => none
  | p :: r, k => if kEq p.1 k = true then some p.2 else dgetD r k
def dputD (ds : List (D × D)) (k : L2.Key) (kd v : D) : List (D × D) := if (ds.any fun p => kEq p.1 k) = true then ds.map (fun p => if kEq p.1 k = true then (p.1, v) else p) else ds ++ [(kd, v)]
/-- the order of texts -/
def ltS (x y : Str) : Bool := decide (x.cps.toList < y.cps.toList)
/-- pairs of keys and values -/
def asPr : D → Option (L2.Key × D × D)
  | .tuple [kd, v] => (keyOf kd).map fun k => (k, kd, v)
  | _ => none
def asPrs : List D → Option (List (L2.Key × D × D))
  | [] => some []
  | d :: r => (asPr d).bind fun p => (asPrs r).map (p :: ·)
def mergeD (acc : List (D × D)) (ps : List (L2.Key × D × D)) : List (D × D) := ps.foldl (fun acc p => dputD acc p.1 p.2.1 p.2.2) acc
/-- one sign among a text's -/
def inS (x z : Str) : Option Bool :=
  match x.cps.toList with
  | [c] => some (decide (c ∈ z.cps.toList))
  | _ => none
def revS (z : Str) : Str := ⟨z.cps.toList.reverse.toArray⟩
def revD : D → Option (D × Bool)
  | .list xs => some (.list xs.reverse, true)
  | .str z => if z.length ≤ sizeLine then some (.str (revS z), false) else none
  | _ => none
def asStrs : List D → Option (List Str)
  | [] => some []
  | .str i :: r => (asStrs r).map (i :: ·)
  | _ :: _ => none
def joinS (a : Str) (ys : List Str) : Option (D × Bool) := if (ys.map (·.length)).sum + ys.length * a.length ≤ 16777216 then some (.str (PySem.Txt.join a ys), false) else none
def joinD (x y : D) : Option (D × Bool) :=
  match x, y with
  | .str a, .list xs => (asStrs xs).bind (joinS a)
  | .str a, .tuple xs => (asStrs xs).bind (joinS a)
  | _, _ => none
def binD (o : Operator) (x y : D) : Option (D × Bool) :=
  match o, x, y with
  | .Add, .int i, .int j => some (.int (i + j), false)
  | .Add, .str i, .str j => if i.length + j.length ≤ sizeLine then some (.str (i ++ j), false) else none
  | .Add, .list i, .list j => if i.length + j.length ≤ sizeLine then some (.list (i ++ j), true) else none
  | .Add, .tuple i, .tuple j => if i.length + j.length ≤ sizeLine then some (.tuple (i ++ j), false) else none
  | .Sub, .int i, .int j => some (.int (i - j), false)
  | .Mult, .int i, .int j => if mulOk i j = true then some (.int (i * j), false) else none
  | .Mult, .str i, .int j => if repOk j i.length = true then some (.str (repS j i), false) else none
  | .BitXor, .int i, .int j => some (.int (Builtin.bitXor i j), false)
  | .LShift, .int i, .int j => if shlOk i j = true then some (.int (i * 2 ^ j.toNat), false) else none
  | .Mult, .list i, .int j => if repOk j i.length = true then some (.list (rep j i), true) else none
  | .FloorDiv, .int i, .int j => if divOk j = true then some (.int (i.fdiv j), false) else none
  | .Mod, .int i, .int j => if j != 0 then some (.int (i.fmod j), false) else none
  | .Pow, .int i, .int j => if powOk i j = true then some (.int (i ^ j.toNat), false) else none
  | _, _, _ => none

def anyIn (x : D) : List D → Bool
  | [] => false
  | y :: ys => PyData.eqv y x || anyIn x ys

/-- lists of different lengths differ, whatever they hold -/
def lenEq : D → D → Option Bool
  | .list xs, .list ys => if xs.length = ys.length then none else some false
  | _, _ => none
def eqD (x y : D) : Option Bool := if eqOk x && eqOk y then some (PyData.eqv x y) else lenEq x y
def neD (x y : D) : Option Bool := if eqOk x && eqOk y then some (!PyData.eqv x y) else none
def cmpD (o : CmpOp) (x y : D) : Option Bool :=
  match o, x, y with
  | .Eq, .str x, .str y => some (decide (x = y))
  | .NotEq, .str x, .str y => some (!decide (x = y))
  | .Eq, x, y => eqD x y
  | .NotEq, x, y => neD x y
  | .Lt, .int i, .int j => some (decide (i < j))
  | .LtE, .int i, .int j => some (decide (i ≤ j))
  | .Gt, .int i, .int j => some (decide (j < i))
  | .GtE, .int i, .int j => some (decide (j ≤ i))
  | .Lt, .str x, .str y => some (ltS x y)
  | .LtE, .str x, .str y => some (!ltS y x)
  | .Gt, .str x, .str y => some (ltS y x)
  | .GtE, .str x, .str y => some (!ltS x y)
  | .In, .str x, .str z => inS x z
  | .NotIn, .str x, .str z => (inS x z).map (!·)
  | .In, x, .dict ys => if okK ys then (keyOf x).map fun k => (dgetD ys k).isSome else none
  | .NotIn, x, .dict ys => if okK ys then (keyOf x).map fun k => !(dgetD ys k).isSome else none
  | .In, x, .list ys => if eqOk x && PyData.canLayAll0 ys then some (anyIn x ys) else none
  | .In, x, .tuple ys => if eqOk x && PyData.canLayAll0 ys then some (anyIn x ys) else none
  | .NotIn, x, .list ys => if eqOk x && PyData.canLayAll0 ys then some (!anyIn x ys) else none
  | .NotIn, x, .tuple ys => if eqOk x && PyData.canLayAll0 ys then some (!anyIn x ys) else none
  | _, _, _ => none

/-- what stands behind `is` in the language: None, True, False -/
inductive Sing where
  | non | tru | fal
def isD (x : D) : Sing → Bool
  | .non => match x with | .none => true | _ => false
  | .tru => match x with | .bool b => b | _ => false
  | .fal => match x with | .bool b => !b | _ => false

def idxD (x y : D) : Option D :=
  match x, y with
  | .list xs, .int i => L2.atI xs i
  | .tuple xs, .int i => L2.atI xs i
  | .dict xs, y => if okK xs then (keyOf y).bind (dgetD xs) else none
  | .str z, .int i => if z.length ≤ sizeLine then (L2.atI z.cps.toList i).map fun c => .str ⟨#[c]⟩ else none
  | _, _ => none

def cut (xs : List D) (lo hi : Option Int) : List D :=
  (xs.drop (HT.sIx xs.length 0 lo)).take (HT.sIx xs.length xs.length hi - HT.sIx xs.length 0 lo)
def slD (x : D) (lo hi : Option Int) : Option (D × Bool) :=
  match x with
  | .list xs => some (.list (cut xs lo hi), true)
  | .tuple xs => some (.tuple (cut xs lo hi), false)
  | .str z => if z.length ≤ sizeLine then some (.str (L2.cutS z lo hi), false) else none
  | _ => none

/-- the types that isinstance is asked for -/
inductive Ty where
  | int | bool | str | list | tuple | dict
def isTy : Ty → D → Bool
  | .int, .int _ => true
  | .int, .bool _ => true
  | .bool, .bool _ => true
  | .str, .str _ => true
  | .list, .list _ => true
  | .tuple, .tuple _ => true
  | .dict, .dict _ => true
  | _, _ => false
def Ty.name : Ty → String
  | .int => "int" | .bool => "bool" | .str => "str" | .list => "list" | .tuple => "tuple" | .dict => "dict"

mutual
/-- no list and no dict in it -/
def immD : D → Bool
  | .none => true
  | .bool _ => true
  | .int _ => true
  | .str _ => true
  | .tuple xs => immA xs
  | .list _ => false
  | .dict _ => false
def immA : List D → Bool
  | [] => true
  | x :: r => immD x && immA r
end
def flatD : D → Bool
  | .list xs => immA xs
  | _ => false
/-- a list's last item is no mark -/
def headOk (xs : List D) : Bool :=
  match cmpD .NotEq (.list xs) (.list []) with
  | some false => true
  | some true => match idxD (.list xs) (.int (-1)) with
    | some d => match cmpD .Eq d (.str "marked") with
      | some false => true
      | _ => false
    | none => false
  | none => false
mutual
/-- what _law_marked finds new -/
def markD : D → Bool
  | .list xs => headOk xs && decide (xs.length < sizeLine) && markA xs
  | .none => true
  | .bool _ => true
  | .int _ => true
  | .str _ => true
  | .tuple xs => immA xs
  | .dict _ => false
def markA : List D → Bool
  | [] => true
  | x :: r => markD x && markA r
end

/-- built-in functions of values -/
inductive BI where
  | len | int | max | min | sum | repr | all | any | list | tuple | abs | str | sorted | dict
def asInts : List D → Option (List Int)
  | [] => some []
  | .int i :: r => (asInts r).map (i :: ·)
  | _ :: _ => none
def asBools : List D → Option (List Bool)
  | [] => some []
  | .bool i :: r => (asBools r).map (i :: ·)
  | _ :: _ => none
def maxI : List Int → Option Int
  | [] => none
  | x :: r => match maxI r with | none => some x | some m => some (if m > x then m else x)
def minI : List Int → Option Int
  | [] => none
  | x :: r => match minI r with | none => some x | some m => some (if m < x then m else x)
def reprOk (d : D) : Bool := plainD d && d.showable && decide (d.depth ≤ 64) && decide (d.shown.length ≤ sizeLine)
def insI (x : Int) : List Int → List Int
  | [] => [x]
  | y :: r => if x ≤ y then x :: y :: r else y :: insI x r
def isort : List Int → List Int
  | [] => []
  | x :: r => insI x (isort r)
def insS (x : Str) : List Str → List Str
  | [] => [x]
  | y :: r => if ltS y x = true then y :: insS x r else x :: y :: r
def ssort : List Str → List Str
  | [] => []
  | x :: r => insS x (ssort r)
/-- methods of lists with one argument -/
inductive M1 where
  | count | index
def M1.nm : M1 → String
  | .count => "count" | .index => "index"
def asStr1 : D → Option Str
  | .str x => some x
  | _ => none
def allStrs : List D → Option (List Str)
  | [] => some []
  | .str i :: r => (allStrs r).map (i :: ·)
  | _ :: _ => none
def findS (y : Str) : Nat → List Str → Option Nat
  | _, [] => none
  | n, x :: r => if x = y then some n else findS y (n + 1) r
def m1D (m : M1) (x y : D) : Option (D × Bool) :=
  match m, x, y with
  | .count, .list xs, .int k => (asInts xs).map fun ns => (.int (ns.count k : Nat), false)
  | .index, .list xs, .str y => (allStrs xs).bind fun zs => (findS y 0 zs).map fun j => (.int (j : Nat), false)
  | _, _, _ => none
def sortD (xs : List D) : Option (D × Bool) :=
  match asInts xs with
  | some ns => some (.list ((isort ns).map .int), true)
  | none => (allStrs xs).bind fun zs => if zs.length < 64 then some (.list ((ssort zs).map .str), true) else none
/-- sorted(set(l)) -/
def insU (x : Int) : List Int → List Int
  | [] => [x]
  | y :: r => if x < y then x :: y :: r else if x = y then y :: r else y :: insU x r
def usort : List Int → List Int
  | [] => []
  | x :: r => insU x (usort r)
def ssetD : D → Option (D × Bool)
  | .list xs => (asInts xs).bind fun ns => if ns.length < 60 then some (.list ((usort ns).map .int), true) else none
  | _ => none
def chS (z : Str) : List Str := z.cps.toList.map fun c => ⟨#[c]⟩
def findD (z : Str) : D → Option (D × Bool)
  | .str y => some (.int (PySem.Txt.find z y), false)
  | _ => none
def signsD (x : Str) : List D := x.cps.toList.map fun c => .str ⟨#[c]⟩
def scalarD : D → Bool
  | .none => true
  | .bool _ => true
  | .int _ => true
  | .str _ => true
  | _ => false
def biD (b : BI) (xs : List D) : Option (D × Bool) :=
  match b, xs with
  | .len, [.list xs] => some (.int xs.length, false)
  | .len, [.tuple xs] => some (.int xs.length, false)
  | .len, [.str z] => if z.length ≤ sizeLine then some (.int z.length, false) else none
  | .int, [.int i] => some (.int i, false)
  | .int, [.str a] => if a.length ≤ 640 then (PySem.intText? a).map fun n => (.int n, false) else none
  | .str, [.int i] => if i.natAbs.log2 < 12000 then some (.str (toString i), false) else none
  | .sorted, [.list xs] => sortD xs
  | .sorted, [.str z] => if z.length < 64 then some (.list ((ssort (chS z)).map .str), true) else none
  | .list, [.str z] => if z.length ≤ sizeLine then some (.list (signsD z), true) else none
  | .dict, [.list xs] => (asPrs xs).map fun ps => (.dict (mergeD [] ps), true)
  | .len, [.dict xs] => if okK xs then some (.int xs.length, false) else none
  | .int, [.bool b] => some (.int (if b then 1 else 0), false)
  | .abs, [.int i] => some (.int (if i < 0 then -i else i), false)
  | .max, [.int i, .int j] => some (.int (if j > i then j else i), false)
  | .min, [.int i, .int j] => some (.int (if j < i then j else i), false)
  | .max, [.list xs] => (asInts xs).bind fun ns => (maxI ns).map fun m => (.int m, false)
  | .min, [.list xs] => (asInts xs).bind fun ns => (minI ns).map fun m => (.int m, false)
  | .sum, [.list xs] => (asInts xs).map fun ns => (.int ns.sum, false)
  | .all, [.list xs] => (asBools xs).map fun bs => (.bool (bs.all id), false)
  | .any, [.list xs] => (asBools xs).map fun bs => (.bool (bs.any id), false)
  | .repr, [d] => if reprOk d = true then some (.str d.shown, false) else none
  | .list, [.list xs] => some (.list xs, true)
  | .list, [.tuple xs] => some (.list xs, true)
  | .tuple, [.list xs] => some (.tuple xs, false)
  | .tuple, [.tuple xs] => some (.tuple xs, false)
  | _, _ => none

/-- methods of values -/
inductive ME where
  | bitlen
def meD (m : ME) (o : D) : Option (D × Bool) :=
  match m, o with
  | .bitlen, .int i => some (.int (Builtin.Int.intBits i : Nat), false)
  | _, _ => none

/-! ### the language -/
inductive Tg where
  | nm (i : Nat)
  | tp (is : List Nat)

mutual
inductive E where
  | v (i : Nat)
  | mv (i : Nat)
  | b (i : Nat)
  | k (d : D)
  | bin (o : Operator) (x y : E)
  /-- a name of the module -/
  | g (i : Nat) (d : D)
  | rev (x : E)
  | join (o x : E)
  | m1 (m : M1) (o x : E)
  /-- the places is are shared, the others read alone, while x is evaluated, which gives no list -/
  | bor (is : List Nat) (x : E)
  | neg (x : E)
  | cmp (o : CmpOp) (x y : E)
  | cmp2 (o o' : CmpOp) (x y z : E)
  | is (x : E) (s : Sing) (neg : Bool)
  | and (es : Es)
  | or (es : Es)
  | not (x : E)
  | ife (c x y : E)
  | tup (es : Es)
  | lst (es : Es)
  | dct
  | idx (x y : E)
  | sl (x : E) (lo hi : Eo)
  | call (f : Nat) (es : Es)
  | callk (f : Nat) (es ks : Es)
  | bi (f : BI) (es : Es)
  | me (m : ME) (o : E)
  | isi (x : E) (t : Ty)
  | isT (x : E) (ts : List Ty)
  /-- a call whose keywords stand in another order: kn their names, pm the places of the parameters among the arguments -/
  | callp (f : Nat) (es ks : Es) (kn : List Str) (pm : List Nat)
  | lc (vs : List Nat) (tg : Tg) (it : It) (cs : Es) (x : E)
  | app (i : Nat) (x : E)
  /-- x.pop() and x.pop(e) -/
  | pop (i : Nat)
  | popk (i : Nat) (x : E)
  /-- list(range(x)), list(range(x, y)), len(range(x)) -/
  | lrg1 (x : E)
  | lrg2 (x y : E)
  | lenr (x : E)
  /-- {x: d} -/
  | dx (x : E) (d : D)
  /-- o.get(x), o.get(x, y) of a dict -/
  | get1 (o x : E)
  | get2 (o x y : E)
  /-- [x for tg in the shared dict in place i], by its keys -/
  | lcK (vs : List Nat) (tg : Tg) (i : Nat) (x : E)
  | fnd (o x : E)
  | sset (x : E)
  /-- {k: d}, of constants -/
  | dk (k d : D)
  /-- a def of the program as a value -/
  | fv (i : Nat)
  /-- x(..), x a def -/
  | callv (i : Nat) (es : Es)
  /-- isinstance(x, the class c) -/
  | isC (x : E) (c : Nat) (cs : List Nat)
  | isV (x : E)
  /-- x.value -/
  | fld (x : E)
  /-- what is never reached -/
  | nope
inductive Eo where
  | no
  | so (x : E)
inductive Es where
  | nil
  | cons (x : E) (r : Es)
inductive It where
  | seq (x : E)
  | rng1 (x : E)
  | rng2 (x y : E)
  /-- range(x, y, -1) -/
  | rng3 (x y z : E)
  | zip (x y : E)
  | enum (x : E)
end

/-- how such a tree is made -/
inductive Cr where
  | disp (es : Es)
  | one (x : E)
/-- a test that must be false: one that does not see the tree, one that reads it, `not f(tree)` -/
inductive Tst where
  | pl (x : E)
  | rd (x : E)
  | mk (f : Nat)
  /-- told[k].append(s), a statement; and where x is true -/
  | ap (k : Nat) (s : D)
  | api (x : E) (k : Nat) (s : D)
mutual
inductive S where
  | set (i : Nat) (x : E)
  | unp (is : List Nat) (x : E)
  | par (is : List Nat) (es : Es)
  | sto (i : Nat) (y x : E)
  | stoD (i : Nat) (y x : E)
  /-- l[y], m[z] = two shared values -/
  | sto2 (i : Nat) (y : E) (j : Nat) (z : E) (es : Es)
  | parO (is : List Nat) (es : Es)
  | ex (x : E)
  | ret (x : E)
  | retn
  | ife (c : E) (p q : Ss)
  | wh (c : E) (p : Ss)
  | for_ (tg : Tg) (it : It) (p : Ss)
  | brk
  | cont
  | pass
  /-- raise the class c (a value) -/
  | rse (c : Nat) (x : E)
  /-- try: p except the class c as e: i = e; cs the classes that stand under c -/
  | tr (p : Ss) (c : Nat) (cs : List Nat) (e i : Nat)
  /-- what is never reached -/
  | nope
inductive Ss where
  | nil
  | cons (s : S) (r : Ss)
  /-- a tree that place i alone holds, statements that read it, mark it; then it is forgotten -/
  | tell (i : Nat) (c : Cr) (ts : List (List Tst)) (r : Ss)
end

def It.isRng : It → Bool
  | .rng1 _ => true
  | .rng2 _ _ => true
  | .rng3 _ _ _ => true
  | _ => false

/-! ### environments -/
/-- an assignment to a name -/
def put (g : Gv) (i : Nat) (s : Slot) : Option Gv :=
  match g[i]? with
  | some (.lk _) => none
  | some (.io _) => none
  | some _ => some (g.set i s)
  | none => none
def puts (g : Gv) : List Nat → List D → Option Gv
  | [], [] => some g
  | i :: is, d :: ds => match put g i (.sh d) with
    | some g' => puts g' is ds
    | none => none
  | _, _ => none
def bindTg (tg : Tg) (d : D) (g : Gv) : Option Gv :=
  match tg with
  | .nm i => put g i (.sh d)
  | .tp is => match d with
    | .tuple ds => puts g is ds
    | .list ds => puts g is ds
    | _ => none
/-- the places forgotten -/
def wipeG (g : Gv) : List Nat → Gv
  | [] => g
  | i :: is => (wipeG g is).set i .un
/-- the places i, taken from g0 -/
def backG (g0 g : Gv) : List Nat → Gv
  | [] => g
  | i :: is => (backG g0 g is).set i ((g0[i]?).getD .un)
/-- a list that is walked is locked meanwhile -/
def lock (g : Gv) (i : Nat) : Gv :=
  match g[i]? with
  | some (.ow d) => g.set i (.lk d)
  | _ => g
def lockL (g : Gv) : List Nat → Gv
  | [] => g
  | i :: is => lockL (lock g i) is
def locks (g : Gv) (o : Op) : List Nat :=
  match o with
  | .slot i => match g[i]? with
    | some (.ow _) => [i]
    | _ => []
  | _ => []
def unlock (g : Gv) (i : Nat) : Gv :=
  match g[i]? with
  | some (.lk d) => g.set i (.ow d)
  | _ => g
def unlockL (g : Gv) : List Nat → Gv
  | [] => g
  | i :: is => unlock (unlockL g is) i
def Rs.unlock {α : Type} (r : Rs α) (l : List Nat) : Rs α :=
  match r with
  | .bad => .bad
  | .ex c fs g => .ex c fs (unlockL g l)
  | .ok a g => .ok a (unlockL g l)

def frzS (is : List Nat) (i : Nat) : Slot → Slot
  | .ow d => if is.contains i = true then .sh d else .lk d
  | .io d => .lk d
  | s => s
def frzF (is : List Nat) : Nat → Gv → Gv
  | _, [] => []
  | n, s :: r => frzS is n s :: frzF is (n + 1) r
/-- nothing may be written, the places is are shared -/
def frz (is : List Nat) (g : Gv) : Gv := frzF is 0 g
/-! ### calls -/
/-- an argument as the callee's place; w: the callee writes it -/
def argOf (g : Gv) (w : Bool) (o : Op) : Option Slot :=
  match w, o with
  | false, .val d _ => some (.sh d)
  | true, .val d true => some (.io d)
  | false, .slot i => match g[i]? with
    | some (.sh d) => some (.sh d)
    | some (.ow d) => some (.lk d)
    | some (.lk d) => some (.lk d)
    | some (.io d) => some (.lk d)
    | _ => none
  | true, .slot i => match g[i]? with
    | some (.ow d) => some (.io d)
    | some (.io d) => some (.io d)
    | _ => none
  | true, .val _ false => none
def isSlot (i : Nat) : Op → Bool
  | .slot j => i == j
  | _ => false
def argL (g : Gv) : Bool → List Op → Option (List Slot)
  | _, [] => some []
  | w, o :: r => match argOf g w o with
    | none => none
    | some a => match argL g false r with
      | none => none
      | some as => some (a :: as)
def clash : List Op → Bool
  | .slot i :: r => r.any (isSlot i)
  | _ => false
/-- the arguments: the first one is written by the callee if w -/
def argsOf (g : Gv) (w : Bool) (os : List Op) : Option (List Slot) := if (w && (clash os || os.isEmpty)) = true then none else argL g w os
/-- behind the call: the written argument's place -/
def wrote (g : Gv) (os : List Op) (io : Option D) : Gv :=
  match os, io with
  | .slot i :: _, some d => match g[i]? with
    | some (.ow _) => g.set i (.ow d)
    | some (.io _) => g.set i (.io d)
    | _ => g
  | _, _ => g
def ioFit (w : Bool) (io : Option D) : Bool :=
  match w, io with
  | true, some _ => true
  | false, none => true
  | _, _ => false
def callR (C : Calls) (f : Nat) (w : Bool) (os : List Op) (g : Gv) : Rs Op :=
  match argsOf g w os with
  | none => .bad
  | some as => match C f as with
    | .bad => .bad
    | .ex c fs io => if ioFit w io = true then .ex c fs (wrote g os io) else .bad
    | .ok d own io => if ioFit w io = true then .ok (.val d own) (wrote g os io) else .bad

def resFn (a : Op) (g : Gv) : Option Nat :=
  match a.res g with
  | none => none
  | some d => asFn d
def resAll (g : Gv) : List Op → Option (List D)
  | [] => some []
  | o :: r => match o.res g with
    | none => none
    | some d => match resAll g r with
      | none => none
      | some ds => some (d :: ds)
/-- operands that are kept: no name's place -/
def vals : List Op → Option (List D)
  | [] => some []
  | .val d _ :: r => match vals r with
    | none => none
    | some ds => some (d :: ds)
  | .slot _ :: _ => none
def ofO {α : Type} (r : Option α) (g : Gv) : Rs α :=
  match r with
  | some a => .ok a g
  | none => .bad
def asPart : D → Option Int
  | .int i => some i
  | _ => none
def signs (x : Str) : List D := x.cps.toList.map fun c => .str ⟨#[c]⟩
def items : D → Option (List D)
  | .list xs => some xs
  | .tuple xs => some xs
  | .str x => if x.length ≤ sizeLine then some (signs x) else none
  | _ => none
def rngOk (i : Int) : Bool := decide (-(2 ^ 62) ≤ i) && decide (i < 2 ^ 62)
def rngL (lo : Int) (n : Nat) : List D := (List.range n).map fun k => .int (lo + (k : Nat))
def dxD (d : D) (kd : D) : Option (D × Bool) := if (keyOf kd).isSome = true then some (.dict [(kd, d)], true) else none
def isDk (a : Op) (g : Gv) : Bool :=
  match a.res g with
  | some (.dict xs) => okK xs
  | _ => false
def get1D : D → D → Option (D × Bool)
  | .dict xs, y => if okK xs then (keyOf y).map fun k => ((dgetD xs k).getD .none, false) else none
  | _, _ => none
def get2D (df : D) : D → D → Option (D × Bool)
  | .dict xs, y => if (scalarD df && okK xs) = true then (keyOf y).map fun k => ((dgetD xs k).getD df, false) else none
  | _, _ => none
def lrgOk (i j : Int) : Bool := rngOk i && rngOk j && decide ((j - i).toNat ≤ sizeLine)
def lrgD : D → Option (D × Bool)
  | .int n => if lrgOk 0 n = true then some (.list (rngL 0 n.toNat), true) else none
  | _ => none
def lrg2D : D → D → Option (D × Bool)
  | .int i, .int j => if lrgOk i j = true then some (.list (rngL i (j - i).toNat), true) else none
  | _, _ => none
def lenrD : D → Option (D × Bool)
  | .int n => if lrgOk 0 n = true then some (.int (n.toNat : Nat), false) else none
  | _ => none
def pairs : List D → List D → List D
  | x :: xs, y :: ys => .tuple [x, y] :: pairs xs ys
  | _, _ => []
def numbered (k : Nat) : List D → List D
  | [] => []
  | x :: xs => .tuple [.int k, x] :: numbered (k + 1) xs

/-! ### how a part ends -/
def finBin (op : D → D → Option (D × Bool)) (a b : Op) (g : Gv) : Rs Op :=
  match a.res g with
  | none => .bad
  | some d => match b.res g with
    | none => .bad
    | some e => match op d e with
      | none => .bad
      | some r => .ok (.val r.1 r.2) g
def finUn (op : D → Option (D × Bool)) (a : Op) (g : Gv) : Rs Op :=
  match a.res g with
  | none => .bad
  | some d => match op d with
    | none => .bad
    | some r => .ok (.val r.1 r.2) g
def finBi (op : List D → Option (D × Bool)) (os : List Op) (g : Gv) : Rs Op :=
  match resAll g os with
  | none => .bad
  | some ds => match op ds with
    | none => .bad
    | some r => .ok (.val r.1 r.2) g
def finTup (os : List Op) (g : Gv) : Rs Op :=
  match vals os with
  | none => .bad
  | some ds => if ds.length ≤ sizeLine then .ok (.val (.tuple ds) false) g else .bad
def finLst (os : List Op) (g : Gv) : Rs Op :=
  match vals os with
  | none => .bad
  | some ds => if ds.length ≤ sizeLine then .ok (.val (.list ds) true) g else .bad
def cmpO (o : CmpOp) (d e : D) : Option (D × Bool) := (cmpD o d e).map fun b => (.bool b, false)
def negO : D → Option (D × Bool)
  | .int i => some (.int (-i), false)
  | _ => none
def isO (s : Sing) (n : Bool) (d : D) : Option (D × Bool) := some (.bool (isD d s != n), false)
def notO (d : D) : Option (D × Bool) := (truth d).map fun b => (.bool (!b), false)
/-- data that has one of the seven types -/
def tyd : D → Bool
  | .dict xs => okK xs
  | _ => true
def tyO (t : Ty) (d : D) : Option (D × Bool) := if tyd d = true then some (.bool (isTy t d), false) else none
def tysO (ts : List Ty) (d : D) : Option (D × Bool) := if tyd d = true then some (.bool (ts.any fun t => isTy t d), false) else none
/-- isinstance of an exception class: cs the classes that stand under it -/
def isCO (cs : List Nat) (d : D) : Option (D × Bool) :=
  match asEx d with
  | some p => some (.bool (cs.contains p.1), false)
  | none => if tyd d = true then some (.bool false, false) else none
def isVO (d : D) : Option (D × Bool) :=
  match asEx d with
  | some _ => some (.bool true, false)
  | none => if tyd d = true then some (.bool false, false) else none
/-- the field of an exception -/
def fldO (j : Nat) (d : D) : Option (D × Bool) :=
  match asEx d with
  | some p => (p.2[j]?).map fun e => (e, false)
  | none => none
def permO {α : Type} : List Nat → List α → Option (List α)
  | [], _ => some []
  | i :: r, os => match os[i]? with
    | none => none
    | some o => match permO r os with
      | none => none
      | some q => some (o :: q)
def idxO (d e : D) : Option (D × Bool) := (idxD d e).map fun r => (r, false)
def cmpB (o : CmpOp) (a b : Op) (g : Gv) : Option Bool :=
  match a.res g with
  | none => none
  | some d => match b.res g with
    | none => none
    | some e => cmpD o d e
/-- an operand's truth -/
def tst (a : Op) (g : Gv) : Option Bool :=
  match a.res g with
  | none => none
  | some d => truth d
def br {α : Type} (o : Option Bool) (p q : Rs α) : Rs α :=
  match o with
  | none => .bad
  | some b => match b with
    | true => p
    | false => q
def rdV (i : Nat) (g : Gv) : Rs Op :=
  match g[i]? with
  | some (.sh d) => .ok (.val d false) g
  | some (.ow d) => .ok (.val d false) (g.set i (.sh d))
  | _ => .bad
def rdM (i : Nat) (g : Gv) : Rs Op :=
  match g[i]? with
  | some (.sh d) => .ok (.val d false) g
  | some (.ow d) => .ok (.val d true) (g.set i .un)
  | _ => .bad
def rdB (i : Nat) (g : Gv) : Rs Op :=
  match look g i with
  | some _ => .ok (.slot i) g
  | none => .bad
/-- the place i holds a list that may be written now -/
def mutL (g : Gv) (i : Nat) : Option (List D) :=
  match g[i]? with
  | some (.ow (.list xs)) => some xs
  | some (.io (.list xs)) => some xs
  | _ => none
def mutDc (g : Gv) (i : Nat) : Option (List (D × D)) :=
  match g[i]? with
  | some (.ow (.dict xs)) => some xs
  | some (.io (.dict xs)) => some xs
  | _ => none
def setDc (g : Gv) (i : Nat) (xs : List (D × D)) : Gv :=
  match g[i]? with
  | some (.ow _) => g.set i (.ow (.dict xs))
  | some (.io _) => g.set i (.io (.dict xs))
  | _ => g
def setL (g : Gv) (i : Nat) (xs : List D) : Gv :=
  match g[i]? with
  | some (.ow _) => g.set i (.ow (.list xs))
  | some (.io _) => g.set i (.io (.list xs))
  | _ => g
def finApp (i : Nat) (a : Op) (g : Gv) : Rs Op :=
  match a with
  | .slot _ => .bad
  | .val d _ => match mutL g i with
    | none => .bad
    | some xs => if xs.length < sizeLine then .ok (.val .none false) (setL g i (xs ++ [d])) else .bad
def finPop (i : Nat) (g : Gv) : Rs Op :=
  match mutL g i with
  | none => .bad
  | some xs => match xs[xs.length - 1]? with
    | none => .bad
    | some d => .ok (.val d false) (setL g i xs.dropLast)
def finPopk (i : Nat) (a : Op) (g : Gv) : Rs Op :=
  match a.res g with
  | some (.int k) => match mutL g i with
    | none => .bad
    | some xs => match L2.ixN xs.length k with
      | none => .bad
      | some j => match xs[j]? with
        | none => .bad
        | some d => .ok (.val d false) (setL g i (xs.eraseIdx j))
  | _ => .bad
def finSl (l h : Option Int) (a : Op) (g : Gv) : Rs Op := finUn (fun d => slD d l h) a g
def finPart (a : Op) (g : Gv) : Rs (Option Int) :=
  match a.res g with
  | some (.int i) => .ok (some i) g
  | _ => .bad
/-- a place that is walked may not be written by others -/
def walkOk (g : Gv) (o : Op) : Bool :=
  match o with
  | .slot i => match g[i]? with
    | some (.io _) => false
    | _ => true
  | _ => true
def finSeq (a : Op) (g : Gv) : Rs (List D × List Nat) :=
  match walkOk g a, a.res g with
  | true, some d => match items d with
    | some ds => .ok (ds, locks g a) g
    | none => .bad
  | _, _ => .bad
def finEnum (a : Op) (g : Gv) : Rs (List D × List Nat) :=
  match walkOk g a, a.res g with
  | true, some (.list ds) => .ok (numbered 0 ds, locks g a) g
  | true, some (.str z) => if z.length ≤ sizeLine then .ok (numbered 0 (signs z), locks g a) g else .bad
  | _, _ => .bad
def finR1 (a : Op) (g : Gv) : Rs (List D × List Nat) :=
  match a.res g with
  | some (.int n) => if rngOk n = true then .ok (rngL 0 n.toNat, []) g else .bad
  | _ => .bad
def dwnL (lo : Int) (n : Nat) : List D := (List.range n).map fun k => .int (lo + (k : Nat) * (-1))
def finR3 (a b c : Op) (g : Gv) : Rs (List D × List Nat) :=
  match a.res g, b.res g, c.res g with
  | some (.int i), some (.int j), some (.int k) => if (rngOk i && rngOk j && decide (k = -1)) = true then .ok (dwnL i (i - j).toNat, []) g else .bad
  | _, _, _ => .bad
def finR2 (a b : Op) (g : Gv) : Rs (List D × List Nat) :=
  match a.res g, b.res g with
  | some (.int i), some (.int j) => if (rngOk i && rngOk j) = true then .ok (rngL i (j - i).toNat, []) g else .bad
  | _, _ => .bad
def finZip (a b : Op) (g : Gv) : Rs (List D × List Nat) :=
  match walkOk g a && walkOk g b, a.res g, b.res g with
  | true, some (.list xs), some (.list ys) => .ok (pairs xs ys, locks g a ++ locks (lockL g (locks g a)) b) g
  | true, some (.tuple xs), some (.tuple ys) => .ok (pairs xs ys, []) g
  | _, _, _ => .bad

/-- a comprehension's turns -/
def lcLoop (vs : List Nat) (tg : Tg) (test : Gv → Rs Bool) (elt : Gv → Rs Op) : List D → List D → Gv → Rs (List D)
  | [], acc, g => .ok acc g
  | d :: ds, acc, g => match bindTg tg d (wipeG g vs) with
    | none => .bad
    | some g1 => match test g1 with
      | .ok true g2 => match elt g2 with
        | .ok (.val x _) g3 => lcLoop vs tg test elt ds (acc ++ [x]) (wipeG g3 vs)
        | _ => .bad
      | .ok false g2 => lcLoop vs tg test elt ds acc (wipeG g2 vs)
      | _ => .bad
def finLc (vs : List Nat) (tg : Tg) (rng : Bool) (test : Gv → Rs Bool) (elt : Gv → Rs Op) (p : List D × List Nat) (g : Gv) : Rs Op :=
  if rng = true ∧ sizeLine < p.1.length then .bad else
    match lcLoop vs tg test elt p.1 [] (wipeG (lockL g p.2) vs) with
    | .ok ds g' => .ok (.val (.list ds) true) (unlockL (backG (lockL g p.2) g' vs) p.2)
    | _ => .bad
def shDict (g : Gv) (i : Nat) : Option (List (D × D)) :=
  match g[i]? with
  | some (.sh (.dict ds)) => if okK ds then some ds else none
  | _ => none

section
variable (C : Calls) (wr : Nat → Bool)
mutual
def ev : E → Gv → Rs Op
  | .v i, g => rdV i g
  | .mv i, g => rdM i g
  | .b i, g => rdB i g
  | .k d, g => .ok (.val d false) g
  | .bin o x y, g => (ev x g).bind fun a g => (ev y g).bind fun b g => finBin (binD o) a b g
  | .g _ d, g => .ok (.val d false) g
  | .rev x, g => (ev x g).bind fun a g => finUn revD a g
  | .join o x, g => (ev o g).bind fun a g => match a.res g with
    | some (.str z) => (ev x g).bind fun b g => finUn (joinD (.str z)) b g
    | _ => .bad
  | .fnd o x, g => (ev o g).bind fun a g => match a.res g with
    | some (.str z) => (ev x g).bind fun b g => finUn (findD z) b g
    | _ => .bad
  | .sset x, g => (ev x g).bind fun a g => finUn ssetD a g
  | .m1 m o x, g => (ev o g).bind fun a g => match a.res g with
    | some (.list _) => (ev x g).bind fun b g => finBin (m1D m) a b g
    | _ => .bad
  | .bor is x, g => match ev x (frz is g) with
    | .ok (.val d _) _ => if scalarD d = true then .ok (.val d false) g else .bad
    | _ => .bad
  | .neg x, g => (ev x g).bind fun a g => finUn negO a g
  | .cmp o x y, g => (ev x g).bind fun a g => (ev y g).bind fun b g => finBin (cmpO o) a b g
  | .cmp2 o o' x y z, g => (ev x g).bind fun a g => (ev y g).bind fun b g => br (cmpB o a b g) ((ev z g).bind fun c g => finBin (cmpO o') b c g) (.ok (.val (.bool false) false) g)
  | .is x s n, g => (ev x g).bind fun a g => finUn (isO s n) a g
  | .and es, g => evAnd es g
  | .or es, g => evOr es g
  | .not x, g => (ev x g).bind fun a g => finUn notO a g
  | .ife c x y, g => (ev c g).bind fun a g => br (tst a g) (ev x g) (ev y g)
  | .tup es, g => (evs es g).bind fun os g => finTup os g
  | .lst es, g => (evs es g).bind fun os g => finLst os g
  | .dct, g => .ok (.val (.dict []) true) g
  | .idx x y, g => (ev x g).bind fun a g => (ev y g).bind fun b g => finBin idxO a b g
  | .sl x lo hi, g => (ev x g).bind fun a g => (evo lo g).bind fun l g => (evo hi g).bind fun h g => finSl l h a g
  | .call f es, g => (evs es g).bind fun os g => callR C f (wr f) os g
  | .callk f es ks, g => ((evs es g).bind fun as g => (evs ks g).bind fun bs g => .ok (as ++ bs) g).bind fun os g => callR C f (wr f) os g
  | .bi f es, g => (evs es g).bind fun os g => finBi (biD f) os g
  | .me m o, g => (ev o g).bind fun a g => finUn (meD m) a g
  | .isi x t, g => (ev x g).bind fun a g => finUn (tyO t) a g
  | .isT x ts, g => (ev x g).bind fun a g => finUn (tysO ts) a g
  | .callp f es ks _ pm, g => (((evs es g).bind fun as g => (evs ks g).bind fun bs g => .ok (as ++ bs) g).bind fun os g => ofO (permO pm os) g).bind fun os g => callR C f (wr f) os g
  | .lc vs tg it cs x, g => (evIt it g).bind fun p g => finLc vs tg it.isRng (evTs cs) (ev x) p g
  | .app i x, g => match mutL g i with
    | none => .bad
    | some _ => (ev x g).bind fun a g => finApp i a g
  | .lrg1 x, g => (ev x g).bind fun a g => finUn lrgD a g
  | .lrg2 x y, g => (ev x g).bind fun a g => (ev y g).bind fun b g => finBin lrg2D a b g
  | .lenr x, g => (ev x g).bind fun a g => finUn lenrD a g
  | .dx x d, g => (ev x g).bind fun a g => finUn (dxD d) a g
  | .get1 o x, g => (ev o g).bind fun a g => match isDk a g with
    | true => (ev x g).bind fun b g => finBin get1D a b g
    | false => .bad
  | .get2 o x y, g => (ev o g).bind fun a g => match isDk a g with
    | true => (ev x g).bind fun b g => (ev y g).bind fun c g => match c.res g with
      | some df => finBin (get2D df) a b g
      | none => .bad
    | false => .bad
  | .pop i, g => finPop i g
  | .popk i x, g => match mutL g i with
    | none => .bad
    | some _ => (ev x g).bind fun a g => finPopk i a g
  | .lcK vs tg i x, g => match shDict g i with
    | none => .bad
    | some ds => finLc vs tg false (fun g => .ok true g) (ev x) (ds.map (·.1), []) g
  | .dk k d, g => .ok (.val (.dict [(k, d)]) true) g
  | .callv i es, g => (rdB i g).bind fun a g => match resFn a g with
    | none => .bad
    | some f => (evs es g).bind fun os g => callR C f (wr f) os g
  | .fv i, g => .ok (.val (fnD i) false) g
  | .isC x _ cs, g => (ev x g).bind fun a g => finUn (isCO cs) a g
  | .isV x, g => (ev x g).bind fun a g => finUn isVO a g
  | .fld x, g => (ev x g).bind fun a g => finUn (fldO 0) a g
  | .nope, _ => .bad
def evo : Eo → Gv → Rs (Option Int)
  | .no, g => .ok none g
  | .so x, g => (ev x g).bind fun a g => finPart a g
def evs : Es → Gv → Rs (List Op)
  | .nil, g => .ok [] g
  | .cons x r, g => (ev x g).bind fun a g => (evs r g).bind fun as g => .ok (a :: as) g
def evAnd : Es → Gv → Rs Op
  | .nil, _ => .bad
  | .cons x r, g => match r with
    | .nil => ev x g
    | .cons _ _ => (ev x g).bind fun a g => br (tst a g) (evAnd r g) (.ok a g)
def evOr : Es → Gv → Rs Op
  | .nil, _ => .bad
  | .cons x r, g => match r with
    | .nil => ev x g
    | .cons _ _ => (ev x g).bind fun a g => br (tst a g) (.ok a g) (evOr r g)
/-- a comprehension's tests -/
def evTs : Es → Gv → Rs Bool
  | .nil, g => .ok true g
  | .cons x r, g => (ev x g).bind fun a g => br (tst a g) (evTs r g) (.ok false g)
/-- what is walked, and the place that is locked meanwhile -/
def evIt : It → Gv → Rs (List D × List Nat)
  | .seq x, g => (ev x g).bind fun a g => finSeq a g
  | .rng1 x, g => (ev x g).bind fun a g => finR1 a g
  | .rng2 x y, g => (ev x g).bind fun a g => (ev y g).bind fun b g => finR2 a b g
  | .rng3 x y z, g => (ev x g).bind fun a g => (ev y g).bind fun b g => (ev z g).bind fun c g => finR3 a b c g
  | .zip x y, g => (ev x g).bind fun a g => (ev y g).bind fun b g => finZip a b g
  | .enum x, g => (ev x g).bind fun a g => finEnum a g
end
end

inductive Fl where
  | next
  | ret (d : D) (own : Bool)
  | brk
  | cont

/-- behind a loop's turn -/
def turn (f : Fl) (g : Gv) (again : Rs Fl) : Rs Fl :=
  match f with
  | .next => again
  | .cont => again
  | .brk => .ok .next g
  | .ret d own => .ok (.ret d own) g
def after (f : Fl) (g : Gv) (rest : Rs Fl) : Rs Fl :=
  match f with
  | .next => rest
  | .cont => .ok .cont g
  | .brk => .ok .brk g
  | .ret d own => .ok (.ret d own) g
/-- a for's turns -/
def forLoop (tg : Tg) (body : Gv → Rs Fl) : List D → Gv → Rs Fl
  | [], g => .ok .next g
  | d :: ds, g => match bindTg tg d g with
    | none => .bad
    | some g1 => (body g1).bind fun f g2 => turn f g2 (forLoop tg body ds g2)
def whLoop (test : Gv → Rs Op) (body : Gv → Rs Fl) : Nat → Gv → Rs Fl
  | 0, _ => .bad
  | n + 1, g => (test g).bind fun a g => br (tst a g) ((body g).bind fun f g2 => turn f g2 (whLoop test body n g2)) (.ok .next g)

def fuel : Nat := 1048576
def whRun (test : Gv → Rs Op) (body : Gv → Rs Fl) (g : Gv) : Rs Fl := whLoop test body fuel g

def finSet (i : Nat) (a : Op) (g : Gv) : Rs Fl :=
  match a with
  | .slot _ => .bad
  | .val d own => match put g i (match own with | true => .ow d | false => .sh d) with
    | some g' => .ok .next g'
    | none => .bad
def finUnp (is : List Nat) (a : Op) (g : Gv) : Rs Fl :=
  match a.res g with
  | none => .bad
  | some d => match bindTg (.tp is) d g with
    | some g' => .ok .next g'
    | none => .bad
def finPar (is : List Nat) (os : List Op) (g : Gv) : Rs Fl :=
  match vals os with
  | none => .bad
  | some ds => match puts g is ds with
    | some g' => .ok .next g'
    | none => .bad
def finSto (i : Nat) (a b : Op) (g : Gv) : Rs Fl :=
  match a with
  | .slot _ => .bad
  | .val d _ => match b.res g with
    | some (.int k) => match mutL g i with
      | none => .bad
      | some xs => match L2.ixN xs.length k with
        | some j => .ok .next (setL g i (xs.set j d))
        | none => .bad
    | _ => .bad
def finStoD (i : Nat) (a b : Op) (g : Gv) : Rs Fl :=
  match a with
  | .slot _ => .bad
  | .val d _ => match b.res g with
    | none => .bad
    | some kd => match keyOf kd with
      | none => .bad
      | some k => match mutDc g i with
        | none => .bad
        | some xs => if xs.length < sizeLine then .ok .next (setDc g i (dputD xs k kd d)) else .bad
def sto2R (fy fz : Gv → Rs Op) (i j : Nat) (os : List Op) (g : Gv) : Rs Fl :=
  match os with
  | [.val d false, .val e false] => match mutL g i with
    | none => .bad
    | some _ => (fy g).bind fun b g => (finSto i (.val d false) b g).bind fun _ g => match mutL g j with
      | none => .bad
      | some _ => (fz g).bind fun b g => (finSto j (.val e false) b g).bind fun _ g => .ok .next g
  | _ => .bad
/-- x, y, .. = the values, new lists stay their place's own -/
def putsO (g : Gv) : List Nat → List Op → Option Gv
  | [], [] => some g
  | i :: is, .val d own :: os => match put g i (match own with | true => .ow d | false => .sh d) with
    | some g' => putsO g' is os
    | none => none
  | _, _ => none
def finParO (is : List Nat) (os : List Op) (g : Gv) : Rs Fl :=
  match putsO g is os with
  | some g' => .ok .next g'
  | none => .bad
def finRet (a : Op) (g : Gv) : Rs Fl :=
  match a with
  | .slot _ => .bad
  | .val d own => .ok (.ret d own) g

def finRse (c : Nat) (a : Op) (g : Gv) : Rs Fl :=
  match a with
  | .val d _ => .ex c [d] g
  | .slot _ => .bad
/-- what the clause does: i = e, then e is forgotten -/
def freeS : Option Slot → Bool
  | some .un => true
  | some (.sh _) => true
  | _ => false
def caught (c : Nat) (fs : List D) (e i : Nat) (g : Gv) : Rs Fl :=
  if (e != i && freeS g[e]?) = true then
    match put g i (.sh (exD c fs)) with
    | none => .bad
    | some g1 => .ok .next (g1.set e .un)
  else .bad
def trR (cs : List Nat) (e i : Nat) (r : Rs Fl) : Rs Fl :=
  match r with
  | .bad => .bad
  | .ok f g => .ok f g
  | .ex c fs g => match cs.contains c with
    | true => caught c fs e i g
    | false => .ex c fs g
def okItem (own : Bool) (d : D) : Bool := match own with | true => flatD d | false => immD d
def tellV : List Op → Option (List D)
  | [] => some []
  | .val d own :: r => if okItem own d = true then (tellV r).map (d :: ·) else none
  | .slot _ :: _ => none
def finDisp (os : List Op) (g : Gv) : Rs D :=
  match tellV os with
  | some ds => if ds.length ≤ sizeLine then .ok (.list ds) g else .bad
  | none => .bad
def finOne (a : Op) (g : Gv) : Rs D :=
  match a with
  | .val d true => if flatD d = true then .ok d g else .bad
  | _ => .bad
/-- told[k].append(s) -/
def apD (k : Nat) (s : D) : Option D → Option D
  | some (.list ds) => match ds[k]? with
    | some (.list zs) => if (immD s && decide (zs.length < sizeLine)) = true then some (.list (ds.set k (.list (zs ++ [s])))) else none
    | _ => none
  | _ => none
def nest3 : D := .tuple [.tuple [.tuple [.int 0]]]
section
variable (C : Calls) (wr : Nat → Bool)
def crE (c : Cr) (g : Gv) : Rs D :=
  match c with
  | .disp es => (evs C wr es g).bind finDisp
  | .one x => (ev C wr x g).bind finOne
/-- one statement's tests -/
def tstR (i : Nat) : List Tst → Option D → Gv → Rs (Option D)
  | [], st, g => .ok st g
  | .pl x :: r, st, g => (ev C wr x g).bind fun a g => br (tst a g) .bad (tstR i r st g)
  | .rd x :: r, st, g => match st with
    | none => .bad
    | some d => match ev C wr x ((frz [] g).set i (.sh d)) with
      | .ok (.val (.bool false) _) _ => tstR i r st g
      | _ => .bad
  | .mk f :: r, st, g => match st with
    | none => .bad
    | some d => match C f [.sh nest3] with
      | .bad => .bad
      | _ => if (markD d && decide (d.depth ≤ 3)) = true then tstR i r none g else .bad
  | .ap k s :: r, st, g => match apD k s st with
    | none => .bad
    | some d => tstR i r (some d) g
  | .api x k s :: r, st, g => (ev C wr x g).bind fun a g => br (tst a g) (match apD k s st with
    | none => .bad
    | some d => tstR i r (some d) g) (tstR i r st g)
def ttR (i : Nat) : List (List Tst) → Option D → Gv → Rs (Option D)
  | [], st, g => .ok st g
  | ts :: r, st, g => (tstR C wr i ts st g).bind fun st g => ttR i r st g
mutual
def ex : S → Gv → Rs Fl
  | .set i x, g => (ev C wr x g).bind fun a g => finSet i a g
  | .unp is x, g => (ev C wr x g).bind fun a g => finUnp is a g
  | .par is es, g => (evs C wr es g).bind fun os g => finPar is os g
  | .sto i y x, g => (ev C wr x g).bind fun a g => match mutL g i with
    | none => .bad
    | some _ => (ev C wr y g).bind fun b g => finSto i a b g
  | .stoD i y x, g => (ev C wr x g).bind fun a g => match mutDc g i with
    | none => .bad
    | some _ => (ev C wr y g).bind fun b g => finStoD i a b g
  | .sto2 i y j z es, g => (evs C wr es g).bind fun os g => sto2R (ev C wr y) (ev C wr z) i j os g
  | .parO is es, g => (evs C wr es g).bind fun os g => finParO is os g
  | .ex x, g => (ev C wr x g).bind fun _ g => .ok .next g
  | .ret x, g => (ev C wr x g).bind fun a g => finRet a g
  | .retn, g => .ok (.ret .none false) g
  | .ife c p q, g => (ev C wr c g).bind fun a g => br (tst a g) (exs p g) (exs q g)
  | .wh c p, g => whRun (ev C wr c) (exs p) g
  | .for_ tg it p, g => (evIt C wr it g).bind fun w g => (forLoop tg (exs p) w.1 (lockL g w.2)).unlock w.2
  | .brk, g => .ok .brk g
  | .cont, g => .ok .cont g
  | .pass, g => .ok .next g
  | .rse c x, g => (ev C wr x g).bind fun a g => finRse c a g
  | .tr p _ cs e i, g => trR cs e i (exs p g)
  | .nope, _ => .bad
def exs : Ss → Gv → Rs Fl
  | .nil, g => .ok .next g
  | .cons s r, g => (ex s g).bind fun f g => after f g (exs r g)
  | .tell i c ts r, g => (crE C wr c g).bind fun d g => match put g i .un with
    | none => .bad
    | some g1 => (ttR C wr i ts (some d) g1).bind fun _ g => exs r g
end
end

/-! ### programs -/
structure Fn where
  name : Str
  /-- the names, parameters first -/
  N : List Str
  np : Nat
  /-- the first parameter is written -/
  w : Bool
  /-- the numbers of positional arguments of the calls with keywords -/
  kw : List Nat
  /-- the calls with keywords in another order -/
  kp : List (Nat × List Str × List Nat) := []
  /-- a name of the module that is no def: its value -/
  kc : Option D := none
  /-- an exception class: the classes that stand under it -/
  cl : Option (List Nat) := none
  /-- _law_marked: its argument's lists are its own, and given up -/
  mark : Bool := false
  body : Ss

def ioOf (w : Bool) (g : Gv) : Option (Option D) :=
  match w, g with
  | false, _ => some none
  | true, .io d :: _ => some (some d)
  | _, _ => none
def runFn (C : Calls) (wr : Nat → Bool) (F : Fn) (as : List Slot) : An :=
  match exs C wr F.body (as ++ List.replicate (F.N.length - F.np) .un) with
  | .bad => .bad
  | .ex c fs g => match ioOf F.w g with
    | some io => .ex c fs io
    | none => .bad
  | .ok f g => match ioOf F.w g with
    | none => .bad
    | some io => match f with
      | .next => .ok .none false io
      | .ret d own => .ok d own io
      | _ => .bad
/-- the arguments' places: the first one alone may be written -/
def Slot.rd : Slot → Bool
  | .sh _ => true
  | .lk _ => true
  | _ => false
def shapeOk (w : Bool) (as : Gv) : Bool :=
  match w, as with
  | true, .io _ :: r => r.all Slot.rd
  | false, r => r.all Slot.rd
  | _, _ => false
def wrOf (G : List Fn) (f : Nat) : Bool := match G[f]? with | some F => F.w | none => false
def run (G : List Fn) : Nat → Calls
  | 0, _, _ => .bad
  | n + 1, f, as => match G[f]? with
    | none => .bad
    | some F => if (as.length == F.np && shapeOk F.w as) = true then runFn (run G n) (wrOf G) F as else .bad
end TL
/-! TX1: an exception that is caught and kept behind its suite. -/
namespace TL
open PySem PySem.Spec PyProof.Rows L2
/-- a kept exception: its class and its dict -/
def xo (a : Addr) (cls : Value) (d : Option Addr) : HO := .ext fun h => ∃ (oe : Obj) (vs : Array Value), h.get? a = some oe ∧ Zc cls d oe ∧ oe.data = .fields vs
theorem xo_ok {P : Program} {w : World} {H : Hp} {h : Heap} {a : Addr} {cls : Value} {d : Option Addr} {oe : Obj} {vs : Array Value} (e : h.get? a = some oe) (z : Zc cls d oe) (k : oe.data = .fields vs) : ObjOk P w H h a (xo a cls d) :=
  ⟨⟨oe, vs, e, z, k⟩, ⟨oe, e⟩, fun h1 h2 q m => by
    obtain ⟨oe, vs, e, z, k⟩ := q
    exact ⟨oe, vs, m _ e, z, k⟩⟩
section
variable {X : Cx} {pins : List (Addr × Obj)} {σ : L2.St} {H : Hp} {s : Shared}
/-- the exception of a suite that is over stays pinned -/
theorem keep_pin {a : Addr} {q : Addr × Obj} (I : Inv (X.suite a (q :: (X.pn ++ pins))) [] σ H s) (ok : X.Ok) : Inv X (q :: pins) σ H s where
  ok := ok
  os := I.os
  bare := I.bare
  base := I.base
  loc := I.loc
  cell := I.cell
  free := I.free
  freeC := I.freeC
  pin := fun p hp => I.pin p (by
    show p ∈ (q :: (X.pn ++ pins)) ++ []
    rw [List.append_nil]
    rcases List.mem_append.mp hp with z | z
    · exact List.mem_cons_of_mem _ (List.mem_append_left _ z)
    · rcases List.mem_cons.mp z with rfl | z
      · exact List.mem_cons_self
      · exact List.mem_cons_of_mem _ (List.mem_append_right _ z))
  hok := I.hok
  len := I.len
/-- what is pinned and was not there at the entry is tracked from now on -/
theorem adopt {a : Addr} {oe : Obj} {vs : Array Value} {cls : Value} {d : Option Addr} (I : Inv X ((a, oe) :: pins) σ H s) (z : Zc cls d oe) (k : oe.data = .fields vs) (new : X.s_0.heap.get? a = none) (off : ∀ p ∈ X.pn ++ pins, p.1 ≠ a) : Inv X pins σ (upd H a (xo a cls d)) s := by
  obtain ⟨ge, na, nl, _, nc⟩ := I.pin (a, oe) (List.mem_append_right _ List.mem_cons_self)
  have ge : s.heap.get? a = some oe := ge
  have na : H a = none := na
  have ne : ∀ {b : Addr} {u : HO}, H b = some u → b ≠ a := fun q e => by rw [e, na] at q; cases q
  have b0 : ∀ {b : Addr} {o : Obj}, X.s_0.heap.get? b = some o → b ≠ a := fun q e => by rw [e, new] at q; cases q
  exact {
    ok := I.ok
    os := I.os
    bare := I.bare
    base := {
      keep := I.base.keep
      slot := I.base.slot
      free := fun b o q n x => by rw [upd_ne (b0 q)]; exact I.base.free b o q n x
      there := I.base.there
      tups := fun b xs q => by
        have := I.base.tups b xs q
        rw [upd_ne (ne this)]; exact this
      frzs := fun b o u q => by
        have := I.base.frzs b o u q
        rw [upd_ne (ne this)]; exact this
      tbls := fun b ps q => by
        obtain ⟨m, e⟩ := I.base.tbls b ps q
        exact ⟨m, by rw [upd_ne (ne e)]; exact e⟩ }
    loc := I.loc
    cell := I.cell
    free := by rw [upd_ne (fun e => nl e.symm)]; exact I.free
    freeC := fun x c q => by
      obtain ⟨v, o, ho⟩ := I.cell x c q
      have : c ≠ a := fun e => by
        subst e
        rw [ge] at ho
        first
          | (cases ho; exact nc _ rfl)
          | (obtain ⟨h1, h2⟩ := ho; cases h1; exact nc _ h2)
      rw [upd_ne this]; exact I.freeC x c q
    pin := fun p hp => by
      obtain ⟨h1, h2, h3⟩ := I.pin p (by
        rcases List.mem_append.mp hp with q | q
        · exact List.mem_append_left _ q
        · exact List.mem_append_right _ (List.mem_cons_of_mem _ q))
      exact ⟨h1, by rw [upd_ne (off p hp)]; exact h2, h3⟩
    hok := fun b u e => by
      by_cases hb : b = a
      · subst hb
        rw [upd_same] at e
        cases e
        exact xo_ok ge z k
      · rw [upd_ne hb] at e
        exact (I.hok b u e).stay (fun c v _ q => q) (fun c q => by rw [upd_ne (ne q)]; exact q) fun c xs q => by rw [upd_ne (ne q)]; exact q
    len := I.len }
end
end TL
/-! TL1: how data stand in the abstract heap; steps of a frame. -/
namespace TL
open PySem L2
/-- where defs and classes of the program stand -/
class Plc where
  fa : Nat → Addr → Prop
  ca : Nat → Addr → Prop
variable [Plc]

def kD : Key → D
  | .inl i => .int i
  | .inr x => .str x
mutual
/-- the tree d is read at v; none of its lists and dicts stands at an address of W -/
inductive Rp (W : Addr → Prop) (H : Hp) : V → D → Prop
  | non : Rp W H .non .none
  | bl (b : Bool) : Rp W H (.bl b) (.bool b)
  | int (i : Int) : Rp W H (.int i) (.int i)
  | str (x : Str) : Rp W H (.str x) (.str x)
  | lst {a : Addr} {xs : List V} {ds : List D} : ¬ W a → xs.length ≤ sizeLine → Rd H a (.lst xs) → RpA W H xs ds → Rp W H (.ref a) (.list ds)
  | tup {a : Addr} {xs : List V} {ds : List D} : ¬ W a → xs.length ≤ sizeLine → Rd H a (.tup xs) → RpA W H xs ds → Rp W H (.ref a) (.tuple ds)
  | dct {a : Addr} {kvs : List (Key × V)} {ds : List (D × D)} : ¬ W a → kvs.length ≤ sizeLine → Rd H a (.dK kvs) → RpK W H kvs ds → Rp W H (.ref a) (.dict ds)
  | fn {i : Nat} {a : Addr} : Plc.fa i a → Rp W H (.ref a) (.dict [(.list [], .int (i : Int))])
  | cls {i : Nat} {a : Addr} : Plc.ca i a → Rp W H (.ref a) (.dict [(.list [.none], .int (i : Int))])
  | exc {a C dd : Addr} {c : Nat} {v : V} {d : D} : ¬ W a → ¬ W dd → H a = some (xo a (.ref C) (some dd)) → Plc.ca c C → H dd = some (.xd [("value", v)]) → Rp W H v d → Rp W H (.ref a) (.dict [(.list [.int (c : Int)], .list [d])])
inductive RpA (W : Addr → Prop) (H : Hp) : List V → List D → Prop
  | nil : RpA W H [] []
  | cons {v : V} {vs : List V} {d : D} {ds : List D} : Rp W H v d → RpA W H vs ds → RpA W H (v :: vs) (d :: ds)
inductive RpK (W : Addr → Prop) (H : Hp) : List (Key × V) → List (D × D) → Prop
  | nil : RpK W H [] []
  | cons {k : Key} {v : V} {r : List (Key × V)} {d : D} {ds : List (D × D)} : Rp W H v d → RpK W H r ds → RpK W H ((k, v) :: r) ((kD k, d) :: ds)
end

/-- all that stands outside M stays -/
def Kept (M : Addr → Prop) (H H' : Hp) : Prop := ∀ b x, H b = some x → ¬ M b → H' b = some x
/-- W' holds old addresses of W and new ones -/
def Sub (W : Addr → Prop) (H : Hp) (W' : Addr → Prop) : Prop := ∀ b, W' b → W b ∨ H b = none

theorem rd_there {H : Hp} {a : Addr} {u : HO} (r : Rd H a u) : ∃ o, H a = some o := by
  rcases r with r | ⟨o, r⟩
  · exact ⟨_, r⟩
  · exact ⟨_, r⟩
theorem rd_keep {H H' : Hp} {a : Addr} {u : HO} (r : Rd H a u) (k : ∀ x, H a = some x → H' a = some x) : Rd H' a u := by
  rcases r with r | ⟨o, r⟩
  · exact .inl (k _ r)
  · exact .inr ⟨o, k _ r⟩
theorem Sub.no {W W' : Addr → Prop} {H : Hp} (s : Sub W H W') {a : Addr} {u : HO} (n : ¬ W a) (r : Rd H a u) : ¬ W' a := fun z => by
  obtain ⟨o, e⟩ := rd_there r
  rcases s a z with q | q
  · exact n q
  · rw [e] at q; cases q

section
variable {W W' : Addr → Prop} {H H' : Hp}
theorem Rp.mono (k : Kept W H H') (s : Sub W H W') (d : D) (v : V) (h : Rp W H v d) : Rp W' H' v d := by
  refine Rp.rec (motive_1 := fun v d _ => Rp W' H' v d) (motive_2 := fun vs ds _ => RpA W' H' vs ds) (motive_3 := fun kvs ds _ => RpK W' H' kvs ds) ?_ ?_ ?_ ?_ ?_ ?_ ?_ ?_ ?_ ?_ ?_ ?_ ?_ ?_ h
  · exact .non
  · exact fun b => .bl b
  · exact fun b => .int b
  · exact fun b => .str b
  · exact fun n l r _ q => .lst (s.no n r) l (rd_keep r fun x e => k _ x e n) q
  · exact fun n l r _ q => .tup (s.no n r) l (rd_keep r fun x e => k _ x e n) q
  · exact fun n l r _ q => .dct (s.no n r) l (rd_keep r fun x e => k _ x e n) q
  · exact fun e => .fn e
  · exact fun e => .cls e
  · exact fun n n2 e c e2 _ q => .exc (s.no n (.inl e)) (s.no n2 (.inl e2)) (k _ _ e n) c (k _ _ e2 n2) q
  · exact .nil
  · exact fun _ _ q1 q2 => .cons q1 q2
  · exact .nil
  · exact fun _ _ q1 q2 => .cons q1 q2
theorem RpA.mono (k : Kept W H H') (s : Sub W H W') : ∀ (ds : List D) (vs : List V), RpA W H vs ds → RpA W' H' vs ds
  | [], _, h => by cases h; exact .nil
  | d :: ds, _, h => by
    cases h with
    | cons h1 h2 => exact .cons (Rp.mono k s d _ h1) (RpA.mono k s ds _ h2)
theorem RpK.mono (k : Kept W H H') (s : Sub W H W') : ∀ (ds : List (D × D)) (vs : List (Key × V)), RpK W H vs ds → RpK W' H' vs ds
  | [], _, h => by cases h; exact .nil
  | (kd, d) :: ds, _, h => by
    cases h with
    | cons h1 h2 => exact .cons (Rp.mono k s d _ h1) (RpK.mono k s ds _ h2)
end

/-- the list or dict at a that its frame alone holds -/
def Own (W : Addr → Prop) (H : Hp) (a : Addr) (d : D) : Prop :=
  match d with
  | .list ds => ∃ xs : List V, H a = some (.lst xs) ∧ xs.length ≤ sizeLine ∧ RpA W H xs ds
  | .dict ds => ∃ kvs : List (Key × V), H a = some (.dK kvs) ∧ kvs.length ≤ sizeLine ∧ RpK W H kvs ds
  | _ => False
theorem Own.there {W : Addr → Prop} {H : Hp} {a : Addr} : ∀ {d : D}, Own W H a d → ∃ o, H a = some o
  | .list _, ⟨_, e, _⟩ => ⟨_, e⟩
  | .dict _, ⟨_, e, _⟩ => ⟨_, e⟩
theorem Own.mono {W W' : Addr → Prop} {H H' : Hp} (k : Kept W H H') (s : Sub W H W') {a : Addr} (ka : ∀ x, H a = some x → H' a = some x) : ∀ {d : D}, Own W H a d → Own W' H' a d
  | .list _, ⟨xs, e, l, q⟩ => ⟨xs, ka _ e, l, RpA.mono k s _ _ q⟩
  | .dict _, ⟨xs, e, l, q⟩ => ⟨xs, ka _ e, l, RpK.mono k s _ _ q⟩
/-- given up: the tree is shared from now on -/
theorem Own.give {W : Addr → Prop} {H : Hp} {a : Addr} (n : ¬ W a) : ∀ {d : D}, Own W H a d → Rp W H (.ref a) d
  | .list _, ⟨_, e, l, q⟩ => .lst n l (.inl e) q
  | .dict _, ⟨_, e, l, q⟩ => .dct n l (.inl e) q

/-- read, whoever holds it -/
def RB (W : Addr → Prop) (H : Hp) (v : V) (d : D) : Prop := Rp W H v d ∨ ∃ a, v = .ref a ∧ Own W H a d

/-! ### the places of a frame -/
def Slot.hold : Slot → Option D
  | .ow d => some d
  | .lk d => some d
  | .io d => some d
  | _ => none
def Slot.mut : Slot → Bool
  | .ow _ => true
  | .io _ => true
  | _ => false
def ad (σ : St) (i : Nat) (a : Addr) : Prop := σ[i]? = some (some (.ref a))
def MutA (σ : St) (g : Gv) (a : Addr) : Prop := ∃ i s, g[i]? = some s ∧ s.mut = true ∧ ad σ i a
def HeldA (σ : St) (g : Gv) (a : Addr) : Prop := ∃ i s d, g[i]? = some s ∧ s.hold = some d ∧ ad σ i a
theorem Slot.hold_of_mut {s : Slot} (h : s.mut = true) : ∃ d, s.hold = some d := by
  cases s with
  | un => cases h
  | sh _ => cases h
  | lk _ => cases h
  | ow d => exact ⟨d, rfl⟩
  | io d => exact ⟨d, rfl⟩
theorem MutA.held {σ : St} {g : Gv} {a : Addr} (h : MutA σ g a) : HeldA σ g a := by
  obtain ⟨i, s, e, m, q⟩ := h
  obtain ⟨d, hd⟩ := Slot.hold_of_mut m
  exact ⟨i, s, d, e, hd, q⟩

structure EOk (W : Addr → Prop) (H : Hp) (σ : St) (g : Gv) : Prop where
  len : g.length = σ.length
  wok : ∀ b, W b → ∃ o, H b = some o
  sh : ∀ (i : Nat) (d : D), g[i]? = some (Slot.sh d) → ∃ v, σ[i]? = some (some v) ∧ Rp W H v d
  hd : ∀ (i : Nat) (s : Slot) (d : D), g[i]? = some s → s.hold = some d → ∃ a, ad σ i a ∧ W a ∧ Own W H a d
  inj : ∀ (i j : Nat) (s t : Slot) (a : Addr), i ≠ j → g[i]? = some s → g[j]? = some t → s.mut = true → (∃ d, t.hold = some d) → ad σ i a → ¬ ad σ j a

/-- from one moment of a frame to a later one -/
structure Stp (W : Addr → Prop) (σ : St) (g : Gv) (H : Hp) (W' : Addr → Prop) (σ' : St) (g' : Gv) (H' : Hp) : Prop where
  keep : Kept (MutA σ g) H H'
  there : ∀ b, H' b = none → H b = none
  w : ∀ b, W b → ¬ MutA σ g b → W' b
  wb : Sub W H W'
  ob : ∀ b, MutA σ' g' b → MutA σ g b ∨ H b = none
  lf : ∀ (i : Nat) (d : D), g[i]? = some (Slot.lk d) → g'[i]? = some (Slot.lk d) ∧ σ'[i]? = σ[i]?
  lb : ∀ (i : Nat) (d : D), g'[i]? = some (Slot.lk d) → g[i]? = some (Slot.lk d)
  fx : ∀ (i : Nat) (d : D), g[i]? = some (Slot.io d) → (∃ d', g'[i]? = some (Slot.io d')) ∧ σ'[i]? = σ[i]?

theorem EOk.mutW {W : Addr → Prop} {H : Hp} {σ : St} {g : Gv} (G : EOk W H σ g) {a : Addr} (h : HeldA σ g a) : W a := by
  obtain ⟨i, s, d, e, hd, q⟩ := h
  obtain ⟨b, q', w, _⟩ := G.hd i s d e hd
  have : (some (some (V.ref a)) : Option (Option V)) = some (some (.ref b)) := q.symm.trans q'
  cases this
  exact w
theorem Stp.refl {W : Addr → Prop} {σ : St} {g : Gv} {H : Hp} : Stp W σ g H W σ g H :=
  ⟨fun _ _ e _ => e, fun _ e => e, fun _ w _ => w, fun _ w => .inl w, fun _ m => .inl m, fun _ _ e => ⟨e, rfl⟩, fun _ _ e => e, fun _ d e => ⟨⟨d, e⟩, rfl⟩⟩
theorem Stp.trans {W W1 W2 : Addr → Prop} {σ σ1 σ2 : St} {g g1 g2 : Gv} {H H1 H2 : Hp} (wok : ∀ b, W b → ∃ o, H b = some o) (a : Stp W σ g H W1 σ1 g1 H1) (b : Stp W1 σ1 g1 H1 W2 σ2 g2 H2) : Stp W σ g H W2 σ2 g2 H2 where
  keep := fun c x e n => b.keep c x (a.keep c x e n) fun m => (a.ob c m).elim n fun z => by rw [e] at z; cases z
  there := fun c e => a.there c (b.there c e)
  w := fun c w n => b.w c (a.w c w n) fun m => (a.ob c m).elim n fun z => by
    obtain ⟨o, e⟩ := wok c w
    rw [e] at z; cases z
  wb := fun c w => (b.wb c w).elim (fun z => a.wb c z) fun z => .inr (a.there c z)
  ob := fun c m => (b.ob c m).elim (fun z => a.ob c z) fun z => .inr (a.there c z)
  lf := fun i d e => by
    obtain ⟨e1, s1⟩ := a.lf i d e
    obtain ⟨e2, s2⟩ := b.lf i d e1
    exact ⟨e2, s2.trans s1⟩
  lb := fun i d e => a.lb i d (b.lb i d e)
  fx := fun i d e => by
    obtain ⟨⟨d1, e1⟩, s1⟩ := a.fx i d e
    obtain ⟨e2, s2⟩ := b.fx i d1 e1
    exact ⟨e2, s2.trans s1⟩
theorem Stp.held {W W' : Addr → Prop} {σ σ' : St} {g g' : Gv} {H H' : Hp} (a : Stp W σ g H W' σ' g' H') {b : Addr} (h : HeldA σ' g' b) : HeldA σ g b ∨ H b = none := by
  obtain ⟨i, s, d, e, hd, q⟩ := h
  cases s with
  | un => cases hd
  | sh _ => cases hd
  | ow d' => exact (a.ob b ⟨i, _, e, rfl, q⟩).imp (fun z => z.held) id
  | io d' => exact (a.ob b ⟨i, _, e, rfl, q⟩).imp (fun z => z.held) id
  | lk d' =>
    have e1 := a.lb i d' e
    have e2 := (a.lf i d' e1).2
    refine .inl ⟨i, _, d', e1, rfl, ?_⟩
    unfold ad
    rw [← e2]
    exact q
/-- what the frame's step leaves of shared trees -/
theorem Stp.kp {W W' : Addr → Prop} {σ σ' : St} {g g' : Gv} {H H' : Hp} (a : Stp W σ g H W' σ' g' H') (G : EOk W H σ g) : Kept W H H' := fun c x e n => a.keep c x e fun m => n (G.mutW m.held)
theorem Stp.rp {W W' : Addr → Prop} {σ σ' : St} {g g' : Gv} {H H' : Hp} (a : Stp W σ g H W' σ' g' H') (G : EOk W H σ g) {v : V} {d : D} (r : Rp W H v d) : Rp W' H' v d := Rp.mono (a.kp G) a.wb d v r
theorem Stp.rpA {W W' : Addr → Prop} {σ σ' : St} {g g' : Gv} {H H' : Hp} (a : Stp W σ g H W' σ' g' H') (G : EOk W H σ g) {v : List V} {d : List D} (r : RpA W H v d) : RpA W' H' v d := RpA.mono (a.kp G) a.wb d v r
theorem Stp.own {W W' : Addr → Prop} {σ σ' : St} {g g' : Gv} {H H' : Hp} (s : Stp W σ g H W' σ' g' H') (G : EOk W H σ g) {a : Addr} {d : D} (n : ¬ MutA σ g a) (r : Own W H a d) : Own W' H' a d :=
  Own.mono (s.kp G) s.wb (fun x e => s.keep a x e n) r

/-! ### what is made anew -/
/-- one address more that trees avoid -/
def more (W : Addr → Prop) (a : Addr) : Addr → Prop := fun b => W b ∨ b = a
/-- an operation's end: all stands as it stood; the result is new (own) or a shared tree -/
def New (W : Addr → Prop) (H : Hp) (d : D) (own : Bool) (Q : VK) : Prop :=
  ∀ v H', Same H H' → (match own with
    | true => ∃ a, v = .ref a ∧ H a = none ∧ Own (more W a) H' a d
    | false => Rp W H' v d) → Q v H'

/-- an operand, later: data (its list not touched since), or the place's value -/
def Opd (W : Addr → Prop) (H : Hp) (σ : St) (v : V) : Op → Prop
  | .val d _ => RB W H v d
  | .slot i => σ[i]? = some (some v)
/-- a result, at once -/
def ORp (σ : St) (g : Gv) (H : Hp) (W' : Addr → Prop) (g' : Gv) (H' : Hp) (v : V) : Op → Prop
  | .val d false => Rp W' H' v d
  | .val d true => ∃ a, v = .ref a ∧ W' a ∧ Own W' H' a d ∧ ¬ HeldA σ g' a ∧ (H a = none ∨ MutA σ g a)
  | .slot i => σ[i]? = some (some v)

section
variable {W W' : Addr → Prop} {σ : St} {g g' : Gv} {H H' : Hp} {v : V}
theorem ORp.opd {g0 : Gv} {H0 : Hp} {o : Op} (r : ORp σ g0 H0 W g H v o) : Opd W H σ v o := by
  cases o with
  | slot i => exact r
  | val d own =>
    cases own with
    | false => exact .inl r
    | true =>
      obtain ⟨a, e, w, q, _⟩ := r
      exact .inr ⟨a, e, q⟩
theorem ORp.later {g0 : Gv} {H0 : Hp} {o : Op} (r : ORp σ g0 H0 W g H v o) (G : EOk W H σ g) (s : Stp W σ g H W' σ g' H') : Opd W' H' σ v o := by
  cases o with
  | slot i => exact r
  | val d own =>
    cases own with
    | false => exact .inl (s.rp G r)
    | true =>
      obtain ⟨a, e, w, q, n, _⟩ := r
      exact .inr ⟨a, e, s.own G (fun m => n m.held) q⟩
theorem look_rb {i : Nat} {d : D} (G : EOk W H σ g) (h : look g i = some d) (e : σ[i]? = some (some v)) : RB W H v d := by
  unfold look at h
  cases q : g[i]? with
  | none => rw [q] at h; cases h
  | some s =>
    rw [q] at h
    have held : ∀ d', s.hold = some d' → s.get = some d' → RB W H v d := fun d' h1 h2 => by
      have h' : s.get = some d := h
      rw [h2] at h'
      cases h'
      obtain ⟨a, ha, _, o⟩ := G.hd i s _ q h1
      have : (some (some v) : Option (Option V)) = some (some (.ref a)) := e.symm.trans ha
      cases this
      exact .inr ⟨a, rfl, o⟩
    cases s with
    | un => cases h
    | sh d' =>
      have h' : some d' = some d := h
      cases h'
      obtain ⟨u, e', r⟩ := G.sh i _ q
      rw [e] at e'
      cases e'
      exact .inl r
    | ow d' => exact held _ rfl rfl
    | lk d' => exact held _ rfl rfl
    | io d' => exact held _ rfl rfl
theorem Opd.rb {o : Op} {d : D} (r : Opd W H σ v o) (G : EOk W H σ g) (h : o.res g = some d) : RB W H v d := by
  cases o with
  | val d' own =>
    have h' : some d' = some d := h
    cases h'
    exact r
  | slot i => exact look_rb G h r
end

/-! ### a computation of the language, held against the heap -/
/-- how an exception of class c with the fields fs lies (class, dict) in H: fixed for a program -/
abbrev XR := (Addr → Prop) → Hp → Nat → List D → Value → Option Addr → Prop
structure Th where
  xr : XR
  wx : WX
def Pst {α : Type} (T : Th) (W : Addr → Prop) (σ : St) (g : Gv) (H : Hp) (R : α → Gv → (Addr → Prop) → Hp → Prop) (r : Rs α) : Prop :=
  match r with
  | .bad => False
  | .ex c fs g' => ∀ cls d H' W', Stp W σ g H W' σ g' H' → EOk W' H' σ g' → T.xr W' H' c fs cls d → T.wx cls d σ H'
  | .ok a g' => ∀ H' W', Stp W σ g H W' σ g' H' → EOk W' H' σ g' → R a g' W' H'
theorem Pst.mono {α : Type} {T : Th} {W : Addr → Prop} {σ : St} {g : Gv} {H : Hp} {R R' : α → Gv → (Addr → Prop) → Hp → Prop} {r : Rs α} (h : Pst T W σ g H R r) (m : ∀ a g' W' H', r = .ok a g' → Stp W σ g H W' σ g' H' → EOk W' H' σ g' → R a g' W' H' → R' a g' W' H') : Pst T W σ g H R' r := by
  cases r with
  | bad => exact h
  | ex c fs g' => exact h
  | ok a g' => exact fun H' W' s G => m a g' W' H' rfl s G (h H' W' s G)
theorem Pst.bind {α β : Type} {T : Th} {W : Addr → Prop} {σ : St} {g : Gv} {H : Hp} {R : β → Gv → (Addr → Prop) → Hp → Prop} {r : Rs α} {f : α → Gv → Rs β} (wok : ∀ b, W b → ∃ o, H b = some o)
    (h : Pst T W σ g H R (r.bind f)) : Pst T W σ g H (fun a g1 W1 H1 => Pst T W1 σ g1 H1 R (f a g1)) r := by
  cases r with
  | bad => exact h
  | ex c fs g' => exact h
  | ok a g1 =>
    intro H1 W1 s G
    have h' : Pst T W σ g H R (f a g1) := h
    show Pst T W1 σ g1 H1 R (f a g1)
    cases hf : f a g1 with
    | bad => rw [hf] at h'; exact h'
    | ex c fs g2 => rw [hf] at h'; exact fun cls d H2 W2 s2 G2 x => h' cls d H2 W2 (s.trans wok s2) G2 x
    | ok b g2 => rw [hf] at h'; exact fun H2 W2 s2 G2 => h' H2 W2 (s.trans wok s2) G2

/-- the reading of an expression of the language -/
def tI (T : Th) (f : Gv → Rs Op) : TE := fun σ H Q => ∃ W g, EOk W H σ g ∧ Pst T W σ g H (fun o g' W' H' => ∀ v, ORp σ g H W' g' H' v o → Q v H') (f g)
omit [Plc] in
theorem PE.imp {X : Cx} {e : Expr} {t t' : TE} (h : PE X e t) (m : ∀ σ H Q, t' σ H Q → t σ H Q) : PE X e t' := ⟨fun pins s σ H Q I q => h.run pins s σ H Q I (m σ H Q q)⟩
omit [Plc] in
theorem PT.imp {X : Cx} {e : Expr} {t t' : TT} (h : PT X e t) (m : ∀ σ H Q, t' σ H Q → t σ H Q) : PT X e t' := ⟨fun pins s σ H Q I q => h.run pins s σ H Q I (m σ H Q q)⟩
omit [Plc] in
theorem PW.imp {X : Cx} {e : Expr} {t t' : TT} (h : PW X e t) (m : ∀ σ H Q, t' σ H Q → t σ H Q) : PW X e t' := ⟨fun wh pins s σ H Q I q => h.run wh pins s σ H Q I (m σ H Q q)⟩
omit [Plc] in
theorem PA.imp {X : Cx} {e : List Expr} {t t' : TA} (h : PA X e t) (m : ∀ σ H Q, t' σ H Q → t σ H Q) : PA X e t' := ⟨fun p pins s σ H Q I q => h.run p pins s σ H Q I (m σ H Q q)⟩
omit [Plc] in
theorem PS.imp {X : Cx} {e : Stmt} {t t' : TS} (h : PS X e t) (m : ∀ D σ H, t' D σ H → t D σ H) : PS X e t' := ⟨fun pins s σ H D I q => h.run pins s σ H D I (m D σ H q)⟩
omit [Plc] in
theorem PSs.imp {X : Cx} {e : List Stmt} {t t' : TS} (h : PSs X e t) (m : ∀ D σ H, t' D σ H → t D σ H) : PSs X e t' := ⟨fun pins s σ H D I q => h.run pins s σ H D I (m D σ H q)⟩

/-- a new object beside a frame -/
theorem stp_new {W : Addr → Prop} {σ : St} {g : Gv} {H H' : Hp} (k : Same H H') : Stp W σ g H W σ g H' :=
  ⟨fun b x e _ => k b x e, fun b e => Same.free k e, fun _ w _ => w, fun _ w => .inl w, fun _ m => .inl m, fun _ _ e => ⟨e, rfl⟩, fun _ _ e => e, fun _ d e => ⟨⟨d, e⟩, rfl⟩⟩
theorem eok_new {W : Addr → Prop} {σ : St} {g : Gv} {H H' : Hp} (G : EOk W H σ g) (k : Same H H') : EOk W H' σ g :=
  ⟨G.len, fun b w => let ⟨o, e⟩ := G.wok b w; ⟨o, k b o e⟩, fun i d e => let ⟨v, e', r⟩ := G.sh i d e; ⟨v, e', (stp_new (W := W) (σ := σ) (g := g) k).rp G r⟩,
    fun i s d e h => let ⟨a, q, w, o⟩ := G.hd i s d e h; ⟨a, q, w, Own.mono (fun c x e _ => k c x e) (fun c w => .inl w) (fun x e => k a x e) o⟩, G.inj⟩
theorem stp_more {W : Addr → Prop} {σ : St} {g : Gv} {H H' : Hp} {a : Addr} (k : Same H H') (n : H a = none) : Stp W σ g H (more W a) σ g H' :=
  ⟨fun b x e _ => k b x e, fun b e => Same.free k e, fun _ w _ => .inl w, fun b w => w.imp id fun z => by rw [z]; exact n, fun _ m => .inl m, fun _ _ e => ⟨e, rfl⟩, fun _ _ e => e, fun _ d e => ⟨⟨d, e⟩, rfl⟩⟩
theorem eok_more {W : Addr → Prop} {σ : St} {g : Gv} {H H' : Hp} (G : EOk W H σ g) (k : Same H H') {a : Addr} (n : H a = none) (t : ∃ o, H' a = some o) : EOk (more W a) H' σ g := by
  have s : Sub W H (more W a) := fun b w => w.imp id fun z => by rw [z]; exact n
  have kk : Kept W H H' := fun c x e _ => k c x e
  refine ⟨G.len, fun b w => ?_, fun i d e => ?_, fun i s' d e h => ?_, G.inj⟩
  · rcases w with w | rfl
    · obtain ⟨o, e⟩ := G.wok b w
      exact ⟨o, k b o e⟩
    · exact t
  · obtain ⟨v, e', r⟩ := G.sh i d e
    exact ⟨v, e', Rp.mono kk s d v r⟩
  · obtain ⟨b, q, w, o⟩ := G.hd i s' d e h
    exact ⟨b, q, .inl w, Own.mono kk s (fun x e => k b x e) o⟩
/-- an operation's result, at a frame -/
theorem fin_new {T : Th} {W : Addr → Prop} {σ : St} {g : Gv} {H : Hp} {d : D} {own : Bool} {Q : VK} {g0 : Gv} {H0 : Hp} (G : EOk W H σ g) (t0 : ∀ b, H b = none → H0 b = none)
    (h : Pst T W σ g H (fun o g' W' H' => ∀ v, ORp σ g0 H0 W' g' H' v o → Q v H') (.ok (.val d own) g)) : New W H d own Q := by
  intro v H' k r
  cases own with
  | false => exact h H' W (stp_new k) (eok_new G k) v r
  | true =>
    obtain ⟨a, e, n, o⟩ := r
    have nW : ¬ W a := fun w => by
      obtain ⟨_, q⟩ := G.wok a w
      rw [n] at q; cases q
    refine h H' (more W a) (stp_more k n) (eok_more G k n o.there) v ⟨a, e, .inr rfl, o, fun z => nW (G.mutW z), .inl (t0 a n)⟩
end TL
/-! TL2: the operations of values over data trees. -/
namespace TL
open PySem PySem.Spec PyProof.Rows L2
variable [Plc]

/-! ### shapes -/
section
variable {W : Addr → Prop} {H : Hp} {x : V}
theorem RB.non (h : RB W H x .none) : x = .non := by
  rcases h with h | ⟨a, e, o⟩
  · cases h; rfl
  · exact o.elim
theorem RB.bl {b : Bool} (h : RB W H x (.bool b)) : x = .bl b := by
  rcases h with h | ⟨a, e, o⟩
  · cases h; rfl
  · exact o.elim
theorem RB.int {i : Int} (h : RB W H x (.int i)) : x = .int i := by
  rcases h with h | ⟨a, e, o⟩
  · cases h; rfl
  · exact o.elim
theorem RB.str {z : Str} (h : RB W H x (.str z)) : x = .str z := by
  rcases h with h | ⟨a, e, o⟩
  · cases h; rfl
  · exact o.elim
theorem RB.lst {ds : List D} (h : RB W H x (.list ds)) : ∃ a xs, x = .ref a ∧ Rd H a (.lst xs) ∧ xs.length ≤ sizeLine ∧ RpA W H xs ds := by
  rcases h with h | ⟨a, e, xs, o, l, q⟩
  · cases h with
    | lst n l r q => exact ⟨_, _, rfl, r, l, q⟩
  · exact ⟨a, xs, e, .inl o, l, q⟩
theorem RB.tup {ds : List D} (h : RB W H x (.tuple ds)) : ∃ a xs, x = .ref a ∧ Rd H a (.tup xs) ∧ xs.length ≤ sizeLine ∧ RpA W H xs ds ∧ ¬ W a := by
  rcases h with h | ⟨a, e, o⟩
  · cases h with
    | tup n l r q => exact ⟨_, _, rfl, r, l, q, n⟩
  · exact o.elim
theorem okK_key (k : Key) (d : D) (ds : List (D × D)) : dkd ((kD k, d) :: ds) = .k := by cases k <;> rfl
theorem RpK.okK : ∀ {kvs : List (Key × V)} {ds : List (D × D)}, RpK W H kvs ds → TL.okK ds = true
  | _, _, .nil => rfl
  | (k, _) :: _, _, .cons _ _ => decide_eq_true (okK_key k _ _)
/-- whatever is a dict of the language stands somewhere -/
theorem RB.ref {ds : List (D × D)} (h : RB W H x (.dict ds)) : ∃ a, x = .ref a := by
  rcases h with h | ⟨a, e, xs, o, l, q⟩
  · cases h <;> exact ⟨_, rfl⟩
  · exact ⟨a, e⟩
theorem RB.dct {ds : List (D × D)} (h : RB W H x (.dict ds)) (hk : TL.okK ds = true) : ∃ a kvs, x = .ref a ∧ Rd H a (.dK kvs) ∧ kvs.length ≤ sizeLine ∧ RpK W H kvs ds := by
  rcases h with h | ⟨a, e, xs, o, l, q⟩
  · cases h with
    | dct n l r q => exact ⟨_, _, rfl, r, l, q⟩
    | fn _ => cases hk
    | cls _ => cases hk
    | exc _ _ _ _ _ _ => cases hk
  · exact ⟨a, xs, e, .inl o, l, q⟩
theorem RpA.length : ∀ {xs : List V} {ds : List D}, RpA W H xs ds → xs.length = ds.length
  | _, _, .nil => rfl
  | _, _, .cons _ t => by rw [List.length_cons, List.length_cons, RpA.length t]
theorem RpK.length : ∀ {xs : List (Key × V)} {ds : List (D × D)}, RpK W H xs ds → xs.length = ds.length
  | _, _, .nil => rfl
  | _, _, .cons _ t => by rw [List.length_cons, List.length_cons, RpK.length t]
theorem RpA.append : ∀ {xs ys : List V} {ds es : List D}, RpA W H xs ds → RpA W H ys es → RpA W H (xs ++ ys) (ds ++ es)
  | _, _, _, _, .nil, h => h
  | _, _, _, _, .cons a t, h => .cons a (RpA.append t h)
theorem RpA.take : ∀ (n : Nat) {xs : List V} {ds : List D}, RpA W H xs ds → RpA W H (xs.take n) (ds.take n)
  | 0, _, _, _ => .nil
  | _ + 1, _, _, .nil => .nil
  | n + 1, _, _, .cons a t => .cons a (RpA.take n t)
theorem RpA.drop : ∀ (n : Nat) {xs : List V} {ds : List D}, RpA W H xs ds → RpA W H (xs.drop n) (ds.drop n)
  | 0, _, _, h => h
  | _ + 1, _, _, .nil => .nil
  | n + 1, _, _, .cons a t => RpA.drop n t
theorem RpA.set {v : V} {d : D} (r : Rp W H v d) : ∀ (n : Nat) {xs : List V} {ds : List D}, RpA W H xs ds → RpA W H (xs.set n v) (ds.set n d)
  | _, _, _, .nil => .nil
  | 0, _, _, .cons a t => .cons r t
  | n + 1, _, _, .cons a t => .cons a (RpA.set r n t)
theorem RpA.get : ∀ {n : Nat} {xs : List V} {ds : List D} {d : D}, RpA W H xs ds → ds[n]? = some d → ∃ v, xs[n]? = some v ∧ Rp W H v d
  | _, _, _, _, .nil, h => by simp at h
  | 0, _, _, _, .cons a t, h => by simp at h; subst h; exact ⟨_, rfl, a⟩
  | n + 1, _, _, _, .cons a t, h => by
    obtain ⟨v, e, r⟩ := RpA.get (n := n) t (by simpa using h)
    exact ⟨v, by simpa using e, r⟩
theorem RpA.nil_iff {xs : List V} {ds : List D} (h : RpA W H xs ds) : xs = [] ↔ ds = [] := by cases h <;> simp
theorem RpA.rep {xs : List V} {ds : List D} (h : RpA W H xs ds) : ∀ n : Nat, RpA W H (List.replicate n xs).flatten (List.replicate n ds).flatten
  | 0 => .nil
  | n + 1 => by
    rw [List.replicate_succ, List.replicate_succ, List.flatten_cons, List.flatten_cons]
    exact h.append (RpA.rep h n)
theorem RpA.ints : ∀ {xs : List V} {ds : List D} {ns : List Int}, RpA W H xs ds → asInts ds = some ns → xs = ns.map V.int
  | _, _, ns, .nil, h => by
    have h' : some [] = some ns := h
    cases h'; rfl
  | _, _, ns, .cons (d := d) (ds := ds) a t, h => by
    cases d with
    | int i =>
      have h' : (asInts ds).map (i :: ·) = some ns := h
      cases q : asInts ds with
      | none => rw [q] at h'; cases h'
      | some ms =>
        rw [q] at h'
        have h2 : some (i :: ms) = some ns := h'
        cases h2
        cases a
        rw [RpA.ints t q]
        rfl
    | _ => cases h
theorem RpA.bools : ∀ {xs : List V} {ds : List D} {ns : List Bool}, RpA W H xs ds → asBools ds = some ns → xs = ns.map V.bl
  | _, _, ns, .nil, h => by
    have h' : some [] = some ns := h
    cases h'; rfl
  | _, _, ns, .cons (d := d) (ds := ds) a t, h => by
    cases d with
    | bool i =>
      have h' : (asBools ds).map (i :: ·) = some ns := h
      cases q : asBools ds with
      | none => rw [q] at h'; cases h'
      | some ms =>
        rw [q] at h'
        have h2 : some (i :: ms) = some ns := h'
        cases h2
        cases a
        rw [RpA.bools t q]
        rfl
    | _ => cases h
end

/-! ### new objects -/
theorem same_upd {H : Hp} {p : Addr} {o : HO} (h : H p = none) : Same H (upd H p o) := fun b x e => by
  rw [upd_ne (ne_of_none e h)]
  exact e
theorem sub_more {W : Addr → Prop} {H : Hp} {a : Addr} (n : H a = none) : Sub W H (more W a) := fun b w => w.imp id fun z => by rw [z]; exact n
theorem RpA.newm {W : Addr → Prop} {H : Hp} {p : Addr} {o : HO} (n : H p = none) {xs : List V} {ds : List D} (r : RpA W H xs ds) : RpA (more W p) (upd H p o) xs ds :=
  RpA.mono (fun b x e _ => same_upd n b x e) (sub_more n) _ _ r
theorem RpA.new {W : Addr → Prop} {H : Hp} {p : Addr} {o : HO} (n : H p = none) {xs : List V} {ds : List D} (r : RpA W H xs ds) : RpA W (upd H p o) xs ds :=
  RpA.mono (fun b x e _ => same_upd n b x e) (fun _ w => .inl w) _ _ r
section
variable {W : Addr → Prop} {H : Hp} {Q : VK}
theorem New.lst {p : Addr} {xs : List V} {ds : List D} (q : New W H (.list ds) true Q) (n : H p = none) (l : xs.length ≤ sizeLine) (r : RpA W H xs ds) : Q (.ref p) (upd H p (.lst xs)) :=
  q _ _ (same_upd n) ⟨p, rfl, n, xs, upd_same, l, r.newm n⟩
theorem New.tup {p : Addr} {xs : List V} {ds : List D} (wok : ∀ b, W b → ∃ o, H b = some o) (q : New W H (.tuple ds) false Q) (n : H p = none) (l : xs.length ≤ sizeLine) (r : RpA W H xs ds) : Q (.ref p) (upd H p (.tup xs)) :=
  q _ _ (same_upd n) (.tup (fun w => by obtain ⟨o, e⟩ := wok p w; rw [n] at e; cases e) l (.inl upd_same) (r.new n))
theorem New.old {v : V} {d : D} (q : New W H d false Q) (r : Rp W H v d) : Q v H := q v H (Same.refl H) r
theorem New.int {i : Int} (q : New W H (.int i) false Q) : Q (.int i) H := q.old (.int i)
theorem New.bl {i : Bool} (q : New W H (.bool i) false Q) : Q (.bl i) H := q.old (.bl i)
theorem New.str {i : Str} (q : New W H (.str i) false Q) : Q (.str i) H := q.old (.str i)
end

/-- two data in, one out -/
def r2 (f : D → D → Option (D × Bool)) : R2 := fun x y H Q => ∃ (W : Addr → Prop) (d e r : D) (own : Bool), (∀ b, W b → ∃ o, H b = some o) ∧ RB W H x d ∧ RB W H y e ∧ f d e = some (r, own) ∧ New W H r own Q

section
variable {X : Cx}
theorem rd_lst {pins : List (Addr × Obj)} {σ : L2.St} {H : Hp} {s : Shared} {a : Addr} {xs : List V} (I : Inv X pins σ H s) (h : Rd H a (.lst xs)) :
    ∃ (its : List Value) (n : Nat), Vals xs its ∧ xs.length = its.length ∧ s.heap.get? a = some { cls := .type "list", data := .seq its.toArray n } := by
  obtain ⟨_, its, n, r, e⟩ := h.ok I.hok
  exact ⟨its, n, r, r.length, e⟩
theorem sqL {H : Hp} {a : Addr} {xs : List V} (h : Rd H a (.lst xs)) : SqL X.K H a xs := .inl h
theorem sqT {H : Hp} {a : Addr} {xs : List V} (h : Rd H a (.tup xs)) : SqT X.K H a xs := .inl h

/-- list + list, wherever they stand -/
theorem opl_cat {pins : List (Addr × Obj)} {σ : L2.St} {H : Hp} {s : Shared} {a b : Addr} {xs ys : List V} {Q : VK} (I : Inv X pins σ H s) (ha : Rd H a (.lst xs)) (hb : Rd H b (.lst ys)) (z : xs.length + ys.length ≤ sizeLine)
    (q : ∀ p, H p = none → Q (.ref p) (upd H p (.lst (xs ++ ys)))) : wpAny (model X.prog X.w) X.A (binaryOp .Add (.ref a) (.ref b)) (EP X pins σ Q) X.xe s := by
  obtain ⟨u, n, ru, lu, eu⟩ := rd_lst I ha
  obtain ⟨v, m, rv, lv, ev⟩ := rd_lst I hb
  have sz : u.toArray.size + v.toArray.size ≤ sizeLine := by
    rw [List.size_toArray, List.size_toArray, ← lu, ← lv]
    exact z
  refine PySem.P.add_list eu ev ?_ sz
  have eq : u.toArray ++ v.toArray = (u ++ v).toArray := List.append_toArray u v
  rw [eq]
  have l : (xs ++ ys).length ≤ sizeLine := by rw [List.length_append]; exact z
  exact ⟨.ref _, _, I.lnew (t' := s.toks) (ru.append rv) l, rfl, q _ I.fresh⟩
theorem rep_arr (u : List Value) (k : Nat) : List.foldl (fun p q => p ++ q) #[] (List.replicate (if u.toArray.isEmpty = true then 0 else k) u.toArray) = (List.replicate k u).flatten.toArray := by
  have go : ∀ m : Nat, List.foldl (fun p q => p ++ q) #[] (List.replicate m u.toArray) = (List.replicate m u).flatten.toArray := by
    intro m
    have := foldl_rep u m []
    simpa using this
  cases u with
  | nil => simp
  | cons y r => rw [if_neg (by simp), go]
/-- list * int, wherever the list stands -/
theorem opl_rep {pins : List (Addr × Obj)} {σ : L2.St} {H : Hp} {s : Shared} {a : Addr} {xs : List V} {k : Int} {t : Tok} {Q : VK} (I : Inv X pins σ H s) (ha : Rd H a (.lst xs)) (h1 : -(2 ^ 63) ≤ k) (h2 : k < 2 ^ 63) (z : xs.length * k.toNat ≤ sizeLine)
    (q : ∀ p, H p = none → Q (.ref p) (upd H p (.lst (List.replicate k.toNat xs).flatten))) : wpAny (model X.prog X.w) X.A (binaryOp .Mult (.ref a) (.int k t)) (EP X pins σ Q) X.xe s := by
  obtain ⟨u, n, ru, lu, eu⟩ := rd_lst I ha
  have sz : u.toArray.size * k.toNat ≤ sizeLine := by rw [List.size_toArray, ← lu]; exact z
  have cap : ¬ u.toArray.size * k.toNat > (2 ^ 63 - 1) / 8 := by
    have h3 : (sizeLine : Nat) ≤ (2 ^ 63 - 1) / 8 := by decide
    omega
  have fits : ¬ (!Builtin.List.listFitsIndex k) = true := by rw [fitsIndex_both h1 h2]; decide
  have short : ¬ Builtin.List.listTooLong (u.toArray.size * k.toNat) = true := by rw [notLongL sz]; decide
  have inner := AutoListH.list___mul___list_int_3 a u.toArray n k t fits cap short
  refine wpAny_binaryOp_repeat_ref (T := "list") (U := "int") (by decide) ⟨_, eu, rfl⟩ (fun s' => typeIs_int s' k t) noFill_list_mul F.fills_int_mul F.slot_int_rmul repeat_list
    F.slot_int_index.lookup ?_
  refine call_meets F.slot_int_rmul (typeIs_int s k t) F.entry_int_rmul (F.args_int_rmul_2 _ _) (int___rmul___int_list k t a u.toArray n) ⟨eu, rfl, ⟨_, eu, rfl⟩, ?_⟩
  refine call_meets F.slot_list_mul ⟨_, eu, rfl⟩ F.entry_list_mul (F.args_list_mul_2 _ _) inner ⟨eu, ?_⟩
  rw [rep_arr]
  have l : (List.replicate k.toNat xs).flatten.length ≤ sizeLine := by rw [PyProof.Rows.lm_len_rep_flat, Nat.mul_comm]; exact z
  exact ⟨.ref _, _, I.lnew (t' := s.toks) (ru.rep k.toNat) l, rfl, q _ I.fresh⟩
/-- tuple + tuple -/
theorem opl_catT {pins : List (Addr × Obj)} {σ : L2.St} {H : Hp} {s : Shared} {a b : Addr} {xs ys : List V} {Q : VK} (I : Inv X pins σ H s) (ha : Rd H a (.tup xs)) (hb : Rd H b (.tup ys)) (z : xs.length + ys.length ≤ sizeLine)
    (q0 : xs = [] → Q (.ref b) H) (q1 : ys = [] → Q (.ref a) H) (q2 : ∀ p, H p = none → Q (.ref p) (upd H p (.tup (xs ++ ys)))) : wpAny (model X.prog X.w) X.A (binaryOp .Add (.ref a) (.ref b)) (EP X pins σ Q) X.xe s := by
  by_cases e : xs = []
  · obtain ⟨u, ru, ⟨o, ho, hc, n, hd⟩, _⟩ := I.tuple (sqT ha)
    obtain ⟨v, rv, ⟨o2, ho2, hc2, n2, hd2⟩, _⟩ := I.tuple (sqT hb)
    obtain ⟨c1, d1, t1, l1⟩ := o
    obtain ⟨c2, d2, t2, l2⟩ := o2
    simp only at hc hd hc2 hd2
    subst hc hd hc2 hd2
    subst e
    cases ru
    refine concat_meets ⟨_, ho, rfl⟩ ⟨_, ho2, rfl⟩ noFill_tuple_add seq_tuple_add PySem.F.slot_tuple_add PySem.F.entry_tuple_add (PySem.F.args_tuple_add_2 _ _)
      (tuple_addW0 a b _ _ n n2 d1 d2 l1 l2 (by rfl)) ⟨ho, ho2, ?_⟩
    exact ⟨.ref b, H, I, rfl, q0 rfl⟩
  · refine op_catT pins s σ H (.ref a) (.ref b) _ _ Q I rfl rfl ⟨a, b, xs, ys, rfl, rfl, sqT ha, sqT hb, e, z, q1, fun _ => q2⟩

theorem opD_add : OpR X (binaryOp .Add) (r2 (binD .Add)) := by
  intro pins s σ H x y v u Q I rx ry h
  obtain ⟨W, d, e, r, own, wok, bx, by', f, q⟩ := h
  cases d <;> cases e <;> first | (exfalso; cases f; done) | skip
  · rename_i i j
    have f' : some (PyData.int (i + j), false) = some (r, own) := f
    cases f'
    exact op_add pins s σ H x y v u Q I rx ry ⟨i, j, bx.int, by'.int, q.int⟩
  · rename_i i j
    have f' : (if i.length + j.length ≤ sizeLine then some (PyData.str (i ++ j), false) else none) = some (r, own) := f
    by_cases z : i.length + j.length ≤ sizeLine
    · rw [if_pos z] at f'
      cases f'
      exact op_add_str pins s σ H x y v u Q I rx ry ⟨i, j, bx.str, by'.str, z, q.str⟩
    · rw [if_neg z] at f'; cases f'
  · rename_i i j
    have f' : (if i.length + j.length ≤ sizeLine then some (PyData.list (i ++ j), true) else none) = some (r, own) := f
    by_cases z : i.length + j.length ≤ sizeLine
    · rw [if_pos z] at f'
      cases f'
      obtain ⟨a, xs, rfl, ra, la, qa⟩ := bx.lst
      obtain ⟨b, ys, rfl, rb, lb, qb⟩ := by'.lst
      cases rx
      cases ry
      have z' : xs.length + ys.length ≤ sizeLine := by rw [qa.length, qb.length]; exact z
      exact opl_cat I ra rb z' fun p n => q.lst n (by rw [List.length_append]; exact z') (qa.append qb)
    · rw [if_neg z] at f'; cases f'
  · rename_i i j
    have f' : (if i.length + j.length ≤ sizeLine then some (PyData.tuple (i ++ j), false) else none) = some (r, own) := f
    by_cases z : i.length + j.length ≤ sizeLine
    · rw [if_pos z] at f'
      cases f'
      obtain ⟨a, xs, rfl, ra, la, qa, na⟩ := bx.tup
      obtain ⟨b, ys, rfl, rb, lb, qb, nb⟩ := by'.tup
      cases rx
      cases ry
      have z' : xs.length + ys.length ≤ sizeLine := by rw [qa.length, qb.length]; exact z
      refine opl_catT I ra rb z' (fun e => ?_) (fun e => ?_) fun p n => q.tup wok n (by rw [List.length_append]; exact z') (qa.append qb)
      · have ei := qa.nil_iff.mp e
        subst ei
        exact q.old (.tup nb lb rb qb)
      · have ei := qb.nil_iff.mp e
        subst ei
        rw [List.append_nil] at q
        exact q.old (.tup na la ra qa)
    · rw [if_neg z] at f'; cases f'
theorem opD_sub : OpR X (binaryOp .Sub) (r2 (binD .Sub)) := by
  intro pins s σ H x y v u Q I rx ry h
  obtain ⟨W, d, e, r, own, wok, bx, by', f, q⟩ := h
  cases d <;> cases e <;> first | (exfalso; cases f; done) | skip
  rename_i i j
  have f' : some (PyData.int (i - j), false) = some (r, own) := f
  cases f'
  exact op_sub pins s σ H x y v u Q I rx ry ⟨i, j, bx.int, by'.int, q.int⟩
theorem mulOk_cm {i j : Int} (h : mulOk i j = true) : CMulW i j := (of_decide_eq_true h : i.natAbs.log2 + j.natAbs.log2 < 1000000)
theorem foldl_app {α : Type} (a : Array α) : ∀ (m : Nat) (acc : Array α), (List.replicate m a).foldl (· ++ ·) acc = acc ++ ((List.replicate m a.toList).flatten).toArray
  | 0, acc => by simp
  | m + 1, acc => by
    rw [List.replicate_succ, List.foldl_cons, foldl_app a m, List.replicate_succ, List.flatten_cons]
    apply Array.ext'
    simp
theorem repS_len (k : Int) (x : Str) : (repS k x).length = x.length * k.toNat := by
  show ((List.replicate k.toNat x.cps.toList).flatten).toArray.size = x.cps.size * k.toNat
  rw [List.size_toArray, PyProof.Rows.lm_len_rep_flat, Nat.mul_comm, Array.length_toList]
theorem repS_one (x : Str) : repS 1 x = x := by
  obtain ⟨c⟩ := x
  show (⟨((List.replicate 1 c.toList).flatten).toArray⟩ : Str) = ⟨c⟩
  simp
theorem opl_repS {pins : List (Addr × Obj)} {σ : L2.St} {H : Hp} {s : Shared} {x : Str} {k : Int} {t t' : Tok} {Q : VK} (I : Inv X pins σ H s) (z : repOk k x.length = true) (q : Q (.str (repS k x)) H) : wpAny (model X.prog X.w) X.A (binaryOp .Mult (.str x t) (.int k t')) (EP X pins σ Q) X.xe s := by
  have zl : (repS k x).length ≤ sizeLine := by
    rw [repS_len]
    unfold repOk at z
    simp only [Bool.and_eq_true, decide_eq_true_eq] at z
    exact z.2
  unfold repOk at z
  simp only [Bool.and_eq_true, decide_eq_true_eq] at z
  obtain ⟨⟨z1, z2⟩, z3⟩ := z
  refine PySem.P.mul_str (by rw [decide_eq_false (by omega), decide_eq_false (by omega)]; rfl) (fun h1 h2 => ?_) (fun h1 h2 => ?_) ?_
  · have hs : (sizeLine : Int) ≤ 2 ^ 63 - 1 := by decide
    have hk : 1 ≤ k := by omega
    have e : ((x.length * k.toNat : Nat) : Int) = x.length * k := by rw [Int.natCast_mul, Int.toNat_of_nonneg (by omega)]
    have : (x.length : Int) * k ≤ 2 ^ 63 - 1 := by rw [← e]; omega
    have := (Int.le_ediv_iff_mul_le (by omega : (0 : Int) < k)).mpr this
    omega
  · unfold Builtin.Str.tooLong
    exact decide_eq_false (by omega)
  · by_cases h1 : k < 1
    · rw [if_pos h1]
      have e : repS k x = Str.empty := by
        unfold repS
        rw [show k.toNat = 0 by omega]
        rfl
      rw [e] at q
      exact ⟨by decide, .str _, H, I.tok _, ⟨_, rfl⟩, q⟩
    · rw [if_neg h1]
      by_cases h2 : (k == 1 || x.length == 0) = true
      · rw [if_pos h2]
        have e : repS k x = x := by
          rcases (Bool.or_eq_true _ _).mp h2 with h | h
          · rw [eq_of_beq h]; exact repS_one x
          · have h0 : x.cps.toList = [] := by
              have : x.cps.size = 0 := eq_of_beq h
              exact List.length_eq_zero_iff.mp (by rw [Array.length_toList]; exact this)
            obtain ⟨c⟩ := x
            have h0 : c.toList = [] := h0
            show (⟨((List.replicate k.toNat c.toList).flatten).toArray⟩ : Str) = ⟨c⟩
            rw [h0]
            have : c = #[] := Array.ext' (by simpa using h0)
            rw [this]
            simp
        rw [e] at q
        exact ⟨.str _, H, I, ⟨_, rfl⟩, q⟩
      · rw [if_neg h2]
        have e : (⟨(List.replicate k.toNat x.cps).foldl (· ++ ·) #[]⟩ : Str) = repS k x := by
          rw [foldl_app]
          unfold repS
          congr 1
          apply Array.ext'
          simp
        rw [e]
        exact ⟨zl, .str _, H, I.tok _, ⟨_, rfl⟩, q⟩
theorem opD_xor : OpR X (binaryOp .BitXor) (r2 (binD .BitXor)) := by
  intro pins s σ H x y v u Q I rx ry h
  obtain ⟨W, d, e, r, own, wok, bx, by', f, q⟩ := h
  cases d <;> cases e <;> first | (exfalso; cases f; done) | skip
  rename_i i j
  have f' : some (PyData.int (Builtin.bitXor i j), false) = some (r, own) := f
  cases f'
  exact op_xor pins s σ H x y v u Q I rx ry ⟨i, j, bx.int, by'.int, q.int⟩
theorem opD_shl : OpR X (binaryOp .LShift) (r2 (binD .LShift)) := by
  intro pins s σ H x y v u Q I rx ry h
  obtain ⟨W, d, e, r, own, wok, bx, by', f, q⟩ := h
  cases d <;> cases e <;> first | (exfalso; cases f; done) | skip
  rename_i i j
  have f' : (if shlOk i j = true then some (PyData.int (i * 2 ^ j.toNat), false) else none) = some (r, own) := f
  by_cases z : shlOk i j = true
  · rw [if_pos z] at f'
    cases f'
    unfold shlOk at z
    simp only [Bool.and_eq_true, decide_eq_true_eq] at z
    exact op_shlW pins s σ H x y v u Q I rx ry ⟨i, j, bx.int, by'.int, z, q.int⟩
  · rw [if_neg z] at f'; cases f'
theorem opD_mul : OpR X (binaryOp .Mult) (r2 (binD .Mult)) := by
  intro pins s σ H x y v u Q I rx ry h
  obtain ⟨W, d, e, r, own, wok, bx, by', f, q⟩ := h
  cases d <;> cases e <;> first | (exfalso; cases f; done) | skip
  · rename_i i j
    have f' : (if mulOk i j = true then some (PyData.int (i * j), false) else none) = some (r, own) := f
    by_cases z : mulOk i j = true
    · rw [if_pos z] at f'
      cases f'
      exact op_mulW pins s σ H x y v u Q I rx ry ⟨i, j, bx.int, by'.int, mulOk_cm z, q.int⟩
    · rw [if_neg z] at f'; cases f'
  · rename_i i j
    have f' : (if repOk j i.length = true then some (PyData.str (repS j i), false) else none) = some (r, own) := f
    by_cases z : repOk j i.length = true
    · rw [if_pos z] at f'
      cases f'
      have ex := bx.str
      have ey := by'.int
      subst ex
      subst ey
      obtain ⟨t, rfl⟩ := rx
      obtain ⟨t', rfl⟩ := ry
      exact opl_repS I z q.str
    · rw [if_neg z] at f'; cases f'
  · rename_i i j
    have f' : (if repOk j i.length = true then some (PyData.list (TL.rep j i), true) else none) = some (r, own) := f
    by_cases z : repOk j i.length = true
    · rw [if_pos z] at f'
      cases f'
      unfold repOk at z
      simp only [Bool.and_eq_true, decide_eq_true_eq] at z
      obtain ⟨⟨z1, z2⟩, z3⟩ := z
      obtain ⟨a, xs, rfl, ra, la, qa⟩ := bx.lst
      have ey := by'.int
      subst ey
      cases rx
      obtain ⟨t, rfl⟩ := ry
      have z' : xs.length * j.toNat ≤ sizeLine := by rw [qa.length]; exact z3
      exact opl_rep I ra z1 z2 z' fun p n => q.lst n (by rw [PyProof.Rows.lm_len_rep_flat, Nat.mul_comm]; exact z') (qa.rep _)
    · rw [if_neg z] at f'; cases f'
theorem opD_fdiv : OpR X (binaryOp .FloorDiv) (r2 (binD .FloorDiv)) := by
  intro pins s σ H x y v u Q I rx ry h
  obtain ⟨W, d, e, r, own, wok, bx, by', f, q⟩ := h
  cases d <;> cases e <;> first | (exfalso; cases f; done) | skip
  rename_i i j
  have f' : (if divOk j = true then some (PyData.int (i.fdiv j), false) else none) = some (r, own) := f
  by_cases z : divOk j = true
  · rw [if_pos z] at f'
    cases f'
    unfold divOk at z
    simp only [Bool.and_eq_true, decide_eq_true_eq, bne_iff_ne, ne_eq] at z
    have ex := bx.int
    have ey := by'.int
    subst ex
    subst ey
    obtain ⟨t, rfl⟩ := rx
    obtain ⟨t', rfl⟩ := ry
    exact floordiv_int z.1 ⟨.int _, H, I.tok _, ⟨_, rfl⟩, q.int⟩ (.inl (PyProof.noPylong_of_log2 z.2))
  · rw [if_neg z] at f'; cases f'
theorem opD_mod : OpR X (binaryOp .Mod) (r2 (binD .Mod)) := by
  intro pins s σ H x y v u Q I rx ry h
  obtain ⟨W, d, e, r, own, wok, bx, by', f, q⟩ := h
  cases d <;> cases e <;> first | (exfalso; cases f; done) | skip
  rename_i i j
  have f' : (if (j != 0) = true then some (PyData.int (i.fmod j), false) else none) = some (r, own) := f
  by_cases z : (j != 0) = true
  · rw [if_pos z] at f'
    cases f'
    exact op_modN pins s σ H x y v u Q I rx ry ⟨i, j, bx.int, by'.int, by simpa using z, q.int⟩
  · rw [if_neg z] at f'; cases f'
theorem opD_pow : OpR X (binaryOp .Pow) (r2 (binD .Pow)) := by
  intro pins s σ H x y v u Q I rx ry h
  obtain ⟨W, d, e, r, own, wok, bx, by', f, q⟩ := h
  cases d <;> cases e <;> first | (exfalso; cases f; done) | skip
  rename_i i j
  have f' : (if powOk i j = true then some (PyData.int (i ^ j.toNat), false) else none) = some (r, own) := f
  by_cases z : powOk i j = true
  · rw [if_pos z] at f'
    cases f'
    unfold powOk at z
    simp only [Bool.and_eq_true, decide_eq_true_eq] at z
    have ex := bx.int
    have ey := by'.int
    subst ex
    subst ey
    obtain ⟨t, rfl⟩ := rx
    obtain ⟨t', rfl⟩ := ry
    refine pow_int z.1 ?_ ⟨.int _, H, I.tok _, ⟨_, rfl⟩, q.int⟩
    have hb : Builtin.Int.intBits i ≤ i.natAbs.log2 + 1 := by
      unfold Builtin.Int.intBits
      split <;> omega
    have h1 : (Builtin.Int.intBits i : Int) * j ≤ ((i.natAbs.log2 + 1 : Nat) : Int) * j := Int.mul_le_mul_of_nonneg_right (by exact_mod_cast hb) z.1
    exact Int.le_trans h1 z.2
  · rw [if_neg z] at f'; cases f'
/-- the binary operators that the language has -/
def binHas : Operator → Bool
  | .Add | .Sub | .Mult | .FloorDiv | .Mod | .Pow | .LShift | .BitXor => true
  | _ => false
theorem opD_bin {o : Operator} (h : binHas o = true) : OpR X (binaryOp o) (r2 (binD o)) := by
  cases o <;> first | cases h | skip
  · exact opD_add
  · exact opD_sub
  · exact opD_mul
  · exact opD_mod
  · exact opD_pow
  · exact opD_shl
  · exact opD_xor
  · exact opD_fdiv
end
end TL
/-! TL3: comparisons, looks, slices, built-in functions over data trees. -/
namespace TL
open PySem PySem.Spec PyProof.Rows L2
variable [Plc]

mutual
theorem plain_lay : ∀ d : D, d.canLay0 = true → plainD d = true
  | .none, _ => rfl
  | .bool _, _ => rfl
  | .int _, _ => rfl
  | .str _, _ => rfl
  | .list xs, h => plainA_lay xs (by simpa [PyData.canLay0] using h)
  | .tuple xs, h => plainA_lay xs (by simpa [PyData.canLay0] using h)
  | .dict _, h => by simp [PyData.canLay0] at h
theorem plainA_lay : ∀ ds : List D, PyData.canLayAll0 ds = true → plainA ds = true
  | [], _ => rfl
  | d :: ds, h => by
    have h' : d.canLay0 = true ∧ PyData.canLayAll0 ds = true := by simpa [PyData.canLayAll0] using h
    exact Bool.and_eq_true_iff.mpr ⟨plain_lay d h'.1, plainA_lay ds h'.2⟩
end
theorem plain_ok {d : D} (h : eqOk d = true) : plainD d = true := plain_lay d (SeqAt.canLay_of_shaped h)
section
variable {X : Cx} {pins : List (Addr × Obj)} {σ : L2.St} {s : Shared}
/-! ### how data are read by the library -/
theorem track_ne (hS : ∃ o, X.K.lookup sysModules = some o) {H : Hp} (I : Inv X pins σ H s) {a : Addr} {u : HO} (h : Rd H a u) : sysModules ≠ a := fun e => by
  obtain ⟨o, ho⟩ := hS
  have hb := I.ok.mod.kin _ _ ho
  have hn := (I.bs _ _ hb).2
  rw [e] at hn
  obtain ⟨w, hw⟩ := rd_there h
  rw [hn] at hw; cases hw
mutual
theorem rb_reads (hS : ∃ o, X.K.lookup sysModules = some o) {H : Hp} {W : Addr → Prop} (I : Inv X pins σ H s) : ∀ (d : D) (v : V) (u : Value), plainD d = true → RB W H v d → RelV v u → ∃ as, Reads s.heap u d as ∧ sysModules ∉ as
  | .none, v, u, pd, h, r => by
    have e := h.non
    subst e
    cases r
    exact ⟨_, .none, by simp⟩
  | .bool b, v, u, pd, h, r => by
    have e := h.bl
    subst e
    cases r
    exact ⟨_, .bool b, by simp⟩
  | .int i, v, u, pd, h, r => by
    have e := h.int
    subst e
    obtain ⟨t, rfl⟩ := r
    exact ⟨_, .int i t, by simp⟩
  | .str x, v, u, pd, h, r => by
    have e := h.str
    subst e
    obtain ⟨t, rfl⟩ := r
    exact ⟨_, .str x t, by simp⟩
  | .list ds, v, u, pd, h, r => by
    obtain ⟨a, xs, rfl, ra, _, qa⟩ := h.lst
    cases r
    obtain ⟨its, n, rv, _, e⟩ := rd_lst I ra
    obtain ⟨as, q, nm⟩ := rpA_reads hS I ds xs its pd qa rv
    refine ⟨_, .list e rfl rfl (by simpa using q), ?_⟩
    simp only [List.mem_cons, not_or]
    exact ⟨track_ne hS I ra, nm⟩
  | .tuple ds, v, u, pd, h, r => by
    obtain ⟨a, xs, rfl, ra, _, qa, _⟩ := h.tup
    cases r
    obtain ⟨its, rv, ⟨o, ho, hc, n, hd⟩, _⟩ := I.tuple (sqT ra)
    obtain ⟨as, q, nm⟩ := rpA_reads hS I ds xs its pd qa rv
    exact ⟨_, .tuple ho hc hd (by simpa using q), nm⟩
  | .dict ds, v, u, pd, h, r => by
    obtain ⟨pd1, pd2⟩ := Bool.and_eq_true_iff.mp (show (okK ds && plainK ds) = true from pd)
    obtain ⟨a, kvs, rfl, ra, _, qa⟩ := h.dct pd1
    cases r
    obtain ⟨_, _, vs, rel, o, es, ep, ho, hx, hd, _, hp, _⟩ := (show ObjOk X.prog X.w H s.heap a (.dK kvs) from rd_of I.hok ra)
    obtain ⟨as, bs, q1, q2, n1, n2⟩ := rpK_reads hS I ds kvs vs es.toList pd2 qa rel hp
    refine ⟨_, .dict ho hx.1 hd q1 q2, ?_⟩
    simp only [List.cons_append, List.mem_cons, List.mem_append, not_or]
    exact ⟨track_ne hS I ra, n1, n2⟩
theorem rpA_reads (hS : ∃ o, X.K.lookup sysModules = some o) {H : Hp} {W : Addr → Prop} (I : Inv X pins σ H s) : ∀ (ds : List D) (vs : List V) (us : List Value), plainA ds = true → RpA W H vs ds → Vals vs us → ∃ as, ReadsAll s.heap us ds as ∧ sysModules ∉ as
  | [], _, _, _, h, r => by
    cases h
    cases r
    exact ⟨_, .nil, by simp⟩
  | d :: ds, _, _, pd, h, r => by
    obtain ⟨pd1, pd2⟩ := Bool.and_eq_true_iff.mp (show (plainD d && plainA ds) = true from pd)
    cases h with
    | cons h1 h2 =>
      cases r with
      | cons r1 r2 =>
        obtain ⟨as, q1, n1⟩ := rb_reads hS I d _ _ pd1 (.inl h1) r1
        obtain ⟨bs, q2, n2⟩ := rpA_reads hS I ds _ _ pd2 h2 r2
        refine ⟨_, .cons q1 q2, ?_⟩
        simp only [List.mem_append, not_or]
        exact ⟨n1, n2⟩
theorem rpK_reads (hS : ∃ o, X.K.lookup sysModules = some o) {H : Hp} {W : Addr → Prop} (I : Inv X pins σ H s) : ∀ (ds : List (D × D)) (kvs : List (Key × V)) (vs : List (Key × Value)) (es : List DictEntry), plainK ds = true → RpK W H kvs ds → KV kvs vs →
    Pairs (mixKind X.prog X.w) es vs → ∃ as bs, ReadsAll s.heap (es.map (·.key)) (ds.map (·.1)) as ∧ ReadsAll s.heap (es.map (·.val)) (ds.map (·.2)) bs ∧ sysModules ∉ as ∧ sysModules ∉ bs
  | [], _, _, _, _, h, r, p => by
    cases h
    cases r
    cases p
    exact ⟨_, _, .nil, .nil, by simp, by simp⟩
  | (kd, d) :: ds, _, _, _, pd, h, r, p => by
    obtain ⟨pd1, pd2⟩ := Bool.and_eq_true_iff.mp (show (plainD d && plainK ds) = true from pd)
    cases h with
    | @cons k v _ _ _ h1 h2 =>
      cases r with
      | cons r1 r2 =>
        cases p with
        | @cons e _ _ _ p1 p2 p3 =>
          obtain ⟨e1, r1⟩ := r1
          obtain ⟨as, bs, q1, q2, n1, n2⟩ := rpK_reads hS I ds _ _ _ pd2 h2 r2 p3
          obtain ⟨cs, q3, n3⟩ := rb_reads hS I d _ _ pd1 (.inl h1) r1
          have hk : ∃ as, Reads s.heap e.key (kD k) as ∧ sysModules ∉ as := by
            have p1' : keyIs k e.key = true := by
              have e1' : k = _ := e1
              rw [e1']
              exact p1
            rcases keyIs_shape p1' with ⟨i, t, hk, hv⟩ | ⟨x, t, hk, hv⟩
            · have hk' : k = Sum.inl i := hk
              subst hk'
              rw [hv]
              exact ⟨_, .int i t, by simp⟩
            · have hk' : k = Sum.inr x := hk
              subst hk'
              rw [hv]
              exact ⟨_, .str x t, by simp⟩
          obtain ⟨ks, q4, n4⟩ := hk
          rw [← p2] at q3
          refine ⟨_, _, .cons q4 q1, .cons q3 q2, ?_, ?_⟩
          · simp only [List.mem_append, not_or]
            exact ⟨n4, n1⟩
          · simp only [List.mem_append, not_or]
            exact ⟨n3, n2⟩
end
end

section
variable {X : Cx}
/-- a comparison of data -/
def rC (o : CmpOp) : R2 := r2 fun d e => (cmpD o d e).map fun b => (.bool b, false)
theorem anyIn_eq (x : D) : ∀ ys : List D, (ys.any fun y => PyData.eqv y x) = anyIn x ys
  | [] => rfl
  | y :: ys => by rw [List.any_cons, anyIn_eq x ys]; rfl
theorem rC_split {o : CmpOp} {d e r : D} {own : Bool} (f : ((cmpD o d e).map fun b => (PyData.bool b, false)) = some (r, own)) : ∃ b, cmpD o d e = some b ∧ r = .bool b ∧ own = false := by
  cases h : cmpD o d e with
  | none => rw [h] at f; cases f
  | some b =>
    rw [h] at f
    have f' : some (PyData.bool b, false) = some (r, own) := f
    cases f'
    exact ⟨b, rfl, rfl, rfl⟩
theorem opC_eq (hS : ∃ o, X.K.lookup sysModules = some o) (hu : X.A.units + 65 < cLine) : OpR X (compareOp .Eq) (rC .Eq) := by
  intro pins s σ H x y v u Q I rx ry h
  obtain ⟨W, d, e, r, own, wok, bx, by', f, q⟩ := h
  obtain ⟨b, f2, rfl, rfl⟩ := rC_split f
  clear f
  have sp : (∃ x y, d = .str x ∧ e = .str y ∧ b = decide (x = y)) ∨ eqD d e = some b := by
    cases d <;> cases e <;> first | exact .inr f2 | exact .inl ⟨_, _, rfl, rfl, (Option.some.inj f2).symm⟩
  rcases sp with ⟨x1, y1, rfl, rfl, rfl⟩ | f3
  · cases bx.str
    cases by'.str
    obtain ⟨t1, rfl⟩ := rx
    obtain ⟨t2, rfl⟩ := ry
    exact PyProof.Rows.eq_str ⟨.bl _, H, I, rfl, by
      have e : (x1 == y1) = decide (x1 = y1) := by
        by_cases z : x1 = y1
        · rw [z]; simp
        · rw [beq_eq_false_iff_ne.mpr z, decide_eq_false z]
      rw [e]
      exact q.bl⟩
  have f' : (if (eqOk d && eqOk e) = true then some (PyData.eqv d e) else lenEq d e) = some b := f3
  by_cases z : (eqOk d && eqOk e) = true
  · rw [if_pos z] at f'
    cases f'
    obtain ⟨z1, z2⟩ := Bool.and_eq_true_iff.mp z
    obtain ⟨as, r1, _⟩ := rb_reads hS I d x v (plain_ok z1) bx rx
    obtain ⟨bs, r2, _⟩ := rb_reads hS I e y u (plain_ok z2) by' ry
    exact SeqAt.compareEq_shaped r1 r2 z1 z2 (by omega) ⟨.bl _, H, I, rfl, q.bl⟩
  · rw [if_neg z] at f'
    cases d <;> cases e <;> first | (cases f'; done) | skip
    rename_i xs ys
    have f3 : (if xs.length = ys.length then none else some false) = some b := f'
    by_cases l : xs.length = ys.length
    · rw [if_pos l] at f3; cases f3
    · rw [if_neg l] at f3
      cases f3
      obtain ⟨a1, us, rfl, ra, _, qa⟩ := bx.lst
      obtain ⟨a2, ws, rfl, rb, _, qb⟩ := by'.lst
      cases rx
      cases ry
      obtain ⟨i1, v1, p1, _⟩ := I.list (sqL ra)
      obtain ⟨i2, v2, p2, _⟩ := I.list (sqL rb)
      have l1 := v1.length
      have l2 := v2.length
      have m1 := qa.length
      have m2 := qb.length
      refine SeqAt.eq_list_lengthsAt p1.isList p2.isList ?_ (by omega) ⟨.bl false, H, I, rfl, q.bl⟩
      simp only [bne_iff_ne, ne_eq]
      simp only [Array.length_toList, List.size_toArray] at l1 l2 ⊢
      omega
theorem opC_ne (hS : ∃ o, X.K.lookup sysModules = some o) (hu : X.A.units + 65 < cLine) : OpR X (compareOp .NotEq) (rC .NotEq) := by
  intro pins s σ H x y v u Q I rx ry h
  obtain ⟨W, d, e, r, own, wok, bx, by', f, q⟩ := h
  obtain ⟨b, f2, rfl, rfl⟩ := rC_split f
  clear f
  have sp : (∃ x y, d = .str x ∧ e = .str y ∧ b = !decide (x = y)) ∨ neD d e = some b := by
    cases d <;> cases e <;> first | exact .inr f2 | exact .inl ⟨_, _, rfl, rfl, (Option.some.inj f2).symm⟩
  rcases sp with ⟨x1, y1, rfl, rfl, rfl⟩ | f3
  · cases bx.str
    cases by'.str
    obtain ⟨t1, rfl⟩ := rx
    obtain ⟨t2, rfl⟩ := ry
    exact PyProof.Rows.ne_str ⟨.bl _, H, I, rfl, by
      have e : (x1 == y1) = decide (x1 = y1) := by
        by_cases z : x1 = y1
        · rw [z]; simp
        · rw [beq_eq_false_iff_ne.mpr z, decide_eq_false z]
      have e2 : (x1 != y1) = !decide (x1 = y1) := by
        show (!(x1 == y1)) = _
        rw [e]
      first
        | (rw [e2]; exact q.bl)
        | (rw [e]; exact q.bl)⟩
  have f' : (if (eqOk d && eqOk e) = true then some (!PyData.eqv d e) else none) = some b := f3
  by_cases z : (eqOk d && eqOk e) = true
  · rw [if_pos z] at f'
    cases f'
    obtain ⟨z1, z2⟩ := Bool.and_eq_true_iff.mp z
    obtain ⟨as, r1, _⟩ := rb_reads hS I d x v (plain_ok z1) bx rx
    obtain ⟨bs, r2, _⟩ := rb_reads hS I e y u (plain_ok z2) by' ry
    exact SeqAt.compareNe_shaped r1 r2 z1 z2 (by omega) ⟨.bl _, H, I, rfl, q.bl⟩
  · rw [if_neg z] at f'; cases f'
def rS (f : Str → Str → Bool) : R2 := fun x y H Q => ∃ i j, x = .str i ∧ y = .str j ∧ Q (.bl (f i j)) H
theorem opS_lt : OpR X (compareOp .Lt) (rS fun x y => ltS x y) := by
  intro pins s σ H x y v u Q I rx ry h
  obtain ⟨i, j, rfl, rfl, q⟩ := h
  obtain ⟨t, rfl⟩ := rx
  obtain ⟨t', rfl⟩ := ry
  exact PyProof.Rows.lt_str (fin_bl I q rfl)
theorem opS_le : OpR X (compareOp .LtE) (rS fun x y => !ltS y x) := by
  intro pins s σ H x y v u Q I rx ry h
  obtain ⟨i, j, rfl, rfl, q⟩ := h
  obtain ⟨t, rfl⟩ := rx
  obtain ⟨t', rfl⟩ := ry
  exact PySem.P.le_str (fin_bl I q rfl)
theorem opS_gt : OpR X (compareOp .Gt) (rS fun x y => ltS y x) := by
  intro pins s σ H x y v u Q I rx ry h
  obtain ⟨i, j, rfl, rfl, q⟩ := h
  obtain ⟨t, rfl⟩ := rx
  obtain ⟨t', rfl⟩ := ry
  exact PySem.P.gt_str (fin_bl I q rfl)
theorem opS_ge : OpR X (compareOp .GtE) (rS fun x y => !ltS x y) := by
  intro pins s σ H x y v u Q I rx ry h
  obtain ⟨i, j, rfl, rfl, q⟩ := h
  obtain ⟨t, rfl⟩ := rx
  obtain ⟨t', rfl⟩ := ry
  exact PySem.P.ge_str (fin_bl I q rfl)
theorem opC_lt : OpR X (compareOp .Lt) (rC .Lt) := by
  intro pins s σ H x y v u Q I rx ry h
  obtain ⟨W, d, e, r, own, wok, bx, by', f, q⟩ := h
  obtain ⟨b, f2, rfl, rfl⟩ := rC_split f
  clear f
  cases d <;> cases e <;> first | (exfalso; cases f2; done) | skip
  · rename_i i j
    have f' : some (decide (i < j)) = some b := f2
    cases f'
    exact op_lt pins s σ H x y v u Q I rx ry ⟨i, j, bx.int, by'.int, q.bl⟩
  · rename_i i j
    have f' : some (ltS i j) = some b := f2
    cases f'
    exact opS_lt pins s σ H x y v u Q I rx ry ⟨i, j, bx.str, by'.str, q.bl⟩
theorem opC_le : OpR X (compareOp .LtE) (rC .LtE) := by
  intro pins s σ H x y v u Q I rx ry h
  obtain ⟨W, d, e, r, own, wok, bx, by', f, q⟩ := h
  obtain ⟨b, f2, rfl, rfl⟩ := rC_split f
  clear f
  cases d <;> cases e <;> first | (exfalso; cases f2; done) | skip
  · rename_i i j
    have f' : some (decide (i ≤ j)) = some b := f2
    cases f'
    exact op_le pins s σ H x y v u Q I rx ry ⟨i, j, bx.int, by'.int, q.bl⟩
  · rename_i i j
    have f' : some (!ltS j i) = some b := f2
    cases f'
    exact opS_le pins s σ H x y v u Q I rx ry ⟨i, j, bx.str, by'.str, q.bl⟩
theorem opC_gt : OpR X (compareOp .Gt) (rC .Gt) := by
  intro pins s σ H x y v u Q I rx ry h
  obtain ⟨W, d, e, r, own, wok, bx, by', f, q⟩ := h
  obtain ⟨b, f2, rfl, rfl⟩ := rC_split f
  clear f
  cases d <;> cases e <;> first | (exfalso; cases f2; done) | skip
  · rename_i i j
    have f' : some (decide (j < i)) = some b := f2
    cases f'
    exact op_gt pins s σ H x y v u Q I rx ry ⟨i, j, bx.int, by'.int, q.bl⟩
  · rename_i i j
    have f' : some (ltS j i) = some b := f2
    cases f'
    exact opS_gt pins s σ H x y v u Q I rx ry ⟨i, j, bx.str, by'.str, q.bl⟩
theorem opC_ge : OpR X (compareOp .GtE) (rC .GtE) := by
  intro pins s σ H x y v u Q I rx ry h
  obtain ⟨W, d, e, r, own, wok, bx, by', f, q⟩ := h
  obtain ⟨b, f2, rfl, rfl⟩ := rC_split f
  clear f
  cases d <;> cases e <;> first | (exfalso; cases f2; done) | skip
  · rename_i i j
    have f' : some (decide (j ≤ i)) = some b := f2
    cases f'
    exact op_ge pins s σ H x y v u Q I rx ry ⟨i, j, bx.int, by'.int, q.bl⟩
  · rename_i i j
    have f' : some (!ltS i j) = some b := f2
    cases f'
    exact opS_ge pins s σ H x y v u Q I rx ry ⟨i, j, bx.str, by'.str, q.bl⟩
theorem room_in {A : Around} {xs : List D} {d : D} (h : eqOk d = true) (hu : A.units + 65 < cLine) : A.units + 1 + min (PyData.depthAll xs) d.depth < cLine := by
  have h1 := SeqAt.depth_of_shaped h
  have h2 := Nat.min_le_right (PyData.depthAll xs) d.depth
  omega
/-! ### dicts -/
theorem keyOf_kV {W : Addr → Prop} {H : Hp} {x : V} : ∀ {d : D} {k : Key}, RB W H x d → keyOf d = some k → x = kV k ∧ d = kD k
  | .int i, k, b, h => by
    have h' : some (Sum.inl i : Key) = some k := h
    cases h'
    exact ⟨b.int, rfl⟩
  | .str i, k, b, h => by
    have h' : some (Sum.inr i : Key) = some k := h
    cases h'
    exact ⟨b.str, rfl⟩
  | .none, _, _, h => nomatch h
  | .bool _, _, _, h => nomatch h
  | .list _, _, _, h => nomatch h
  | .tuple _, _, _, h => nomatch h
  | .dict _, _, _, h => nomatch h
theorem kEq_kD (k j : Key) : kEq (kD k) j = decide (k = j) := by
  cases k <;> cases j
  · rename_i a b
    show (a == b) = _
    by_cases e : a = b
    · subst e; simp
    · rw [decide_eq_false (fun z => e (Sum.inl.inj z))]
      exact beq_false_of_ne e
  · exact (decide_eq_false (by intro z; cases z)).symm
  · exact (decide_eq_false (by intro z; cases z)).symm
  · rename_i a b
    show decide (a = b) = _
    by_cases e : a = b
    · subst e; simp
    · rw [decide_eq_false e, decide_eq_false (fun z => e (Sum.inr.inj z))]
theorem rpK_get {W : Addr → Prop} {H : Hp} {k : Key} : ∀ {kvs : List (Key × V)} {ds : List (D × D)}, RpK W H kvs ds → (valV kvs k = none ∧ dgetD ds k = none) ∨ ∃ v d, valV kvs k = some v ∧ dgetD ds k = some d ∧ Rp W H v d
  | [], _, h => by
    cases h
    exact .inl ⟨rfl, rfl⟩
  | (k', v) :: r, _, h => by
    cases h with
    | @cons _ _ _ d ds h1 h2 =>
      have e : dgetD ((kD k', d) :: ds) k = if kEq (kD k') k = true then some d else dgetD ds k := rfl
      rw [e, kEq_kD]
      by_cases z : k' = k
      · rw [valV_pos (p := (k', v)) z, if_pos (decide_eq_true z)]
        exact .inr ⟨v, d, rfl, rfl, h1⟩
      · rw [valV_neg (p := (k', v)) z, if_neg (by rw [decide_eq_false z]; decide)]
        exact rpK_get h2
theorem rpK_any {W : Addr → Prop} {H : Hp} {k : Key} : ∀ {kvs : List (Key × V)} {ds : List (D × D)}, RpK W H kvs ds → (kvs.any fun kv => decide (kv.1 = k)) = ds.any fun p => kEq p.1 k
  | [], _, h => by cases h; rfl
  | (k', v) :: r, _, h => by
    cases h with
    | @cons _ _ _ d ds h1 h2 => rw [List.any_cons, List.any_cons, rpK_any h2, kEq_kD]
theorem rpK_map {W : Addr → Prop} {H : Hp} {k : Key} {v : V} {d : D} (q : Rp W H v d) : ∀ {kvs : List (Key × V)} {ds : List (D × D)}, RpK W H kvs ds → RpK W H (kvs.map fun kv => if kv.1 = k then (kv.1, v) else kv) (ds.map fun p => if kEq p.1 k = true then (p.1, d) else p)
  | [], _, h => by cases h; exact .nil
  | (k', v') :: r, _, h => by
    cases h with
    | @cons _ _ _ d' ds h1 h2 =>
      rw [List.map_cons, List.map_cons, kEq_kD]
      by_cases z : k' = k
      · rw [if_pos z, if_pos (decide_eq_true z)]
        exact .cons q (rpK_map q h2)
      · rw [if_neg z, if_neg (by rw [decide_eq_false z]; decide)]
        exact .cons h1 (rpK_map q h2)
theorem rpK_app {W : Addr → Prop} {H : Hp} {k : Key} {v : V} {d : D} (q : Rp W H v d) : ∀ {kvs : List (Key × V)} {ds : List (D × D)}, RpK W H kvs ds → RpK W H (kvs ++ [(k, v)]) (ds ++ [(kD k, d)])
  | [], _, h => by cases h; exact .cons q .nil
  | (k', v') :: r, _, h => by
    cases h with
    | cons h1 h2 => exact .cons h1 (rpK_app q h2)
theorem rpK_put {W : Addr → Prop} {H : Hp} {k : Key} {v : V} {d : D} (q : Rp W H v d) {kvs : List (Key × V)} {ds : List (D × D)} (h : RpK W H kvs ds) : RpK W H (putK kvs k v) (dputD ds k (kD k) d) := by
  unfold putK dputD
  rw [rpK_any h]
  cases e : (ds.any fun p => kEq p.1 k) with
  | true =>
    rw [if_pos rfl, if_pos rfl]
    exact rpK_map q h
  | false =>
    rw [if_neg (by decide), if_neg (by decide)]
    exact rpK_app q h
theorem rpK_len {W : Addr → Prop} {H : Hp} : ∀ {kvs : List (Key × V)} {ds : List (D × D)}, RpK W H kvs ds → kvs.length = ds.length
  | [], _, h => by cases h; rfl
  | (k', v') :: r, _, h => by
    cases h with
    | cons h1 h2 => rw [List.length_cons, List.length_cons, rpK_len h2]
theorem dgk {H : Hp} {a : Addr} {kvs : List (Key × V)} {k : Key} (e : Rd H a (.dK kvs)) : DGet H a (kV k) (valV kvs k) := .inl ⟨kvs, k, e, rfl, rfl⟩
theorem opC_in (hS : ∃ o, X.K.lookup sysModules = some o) (hu : X.A.units + 65 < cLine) : OpR X (compareOp .In) (rC .In) := by
  intro pins s σ H x y v u Q I rx ry h
  obtain ⟨W, d, e, r, own, wok, bx, by', f, q⟩ := h
  obtain ⟨b, f2, rfl, rfl⟩ := rC_split f
  clear f
  cases e <;> first | (exfalso; cases d <;> cases f2; done) | skip
  · rename_i z
    cases d <;> first | (exfalso; cases f2; done) | skip
    rename_i x0
    have f' : inS x0 z = some b := f2
    unfold inS at f'
    split at f'
    · rename_i c hc
      cases f'
      have ex : x0 = ⟨#[c]⟩ := by
        obtain ⟨ar⟩ := x0
        have hc : ar.toList = [c] := hc
        have : ar = #[c] := Array.ext' (by simpa using hc)
        rw [this]
      exact op_in_sign pins s σ H x y v u Q I rx ry ⟨c, z, by rw [bx.str, ex], by'.str, q.bl⟩
    · cases f'
  · rename_i ys
    have f' : (if (eqOk d && PyData.canLayAll0 ys) = true then some (anyIn d ys) else none) = some b := by cases d <;> exact f2
    by_cases z : (eqOk d && PyData.canLayAll0 ys) = true
    · rw [if_pos z] at f'
      cases f'
      obtain ⟨z1, z2⟩ := Bool.and_eq_true_iff.mp z
      obtain ⟨as, r1, _⟩ := rb_reads hS I d x v (plain_ok z1) bx rx
      obtain ⟨bs, r2, _⟩ := rb_reads hS I (.list ys) y u (plainA_lay ys z2) by' ry
      exact SeqAt.in_list_reads r2 r1 z2 (SeqAt.canLay_of_shaped z1) (room_in z1 hu) ⟨.bl _, H, I, by rw [anyIn_eq]; rfl, q.bl⟩
    · rw [if_neg z] at f'; cases f'
  · rename_i ys
    have f' : (if (eqOk d && PyData.canLayAll0 ys) = true then some (anyIn d ys) else none) = some b := by cases d <;> exact f2
    by_cases z : (eqOk d && PyData.canLayAll0 ys) = true
    · rw [if_pos z] at f'
      cases f'
      obtain ⟨z1, z2⟩ := Bool.and_eq_true_iff.mp z
      obtain ⟨as, r1, _⟩ := rb_reads hS I d x v (plain_ok z1) bx rx
      obtain ⟨bs, r2, _⟩ := rb_reads hS I (.tuple ys) y u (plainA_lay ys z2) by' ry
      exact SeqAt.in_tuple_reads r2 r1 z2 (SeqAt.canLay_of_shaped z1) (room_in z1 hu) ⟨.bl _, H, I, by rw [anyIn_eq]; rfl, q.bl⟩
    · rw [if_neg z] at f'; cases f'
  · rename_i ys
    have f0 : (if okK ys = true then (keyOf d).map fun k => (dgetD ys k).isSome else none) = some b := by cases d <;> exact f2
    by_cases ok : okK ys = true
    case neg => rw [if_neg ok] at f0; cases f0
    rw [if_pos ok] at f0
    have f' : ((keyOf d).map fun k => (dgetD ys k).isSome) = some b := f0
    cases hk : keyOf d with
    | none => rw [hk] at f'; cases f'
    | some k =>
      rw [hk] at f'
      cases f'
      obtain ⟨ex, _⟩ := keyOf_kV bx hk
      subst ex
      obtain ⟨a, kvs, rfl, ra, la, qa⟩ := by'.dct ok
      cases ry
      have es : (valV kvs k).isSome = (dgetD ys k).isSome := by
        rcases rpK_get (k := k) qa with ⟨e1, e2⟩ | ⟨v, d, e1, e2, _⟩ <;> (rw [e1, e2]; try rfl)
      refine d_in (by omega) I (dgk ra) rx fun s' I' => ⟨.bl _, H, I', by rw [es]; rfl, q.bl⟩
theorem opC_notin (hS : ∃ o, X.K.lookup sysModules = some o) (hu : X.A.units + 65 < cLine) : OpR X (compareOp .NotIn) (rC .NotIn) := by
  intro pins s σ H x y v u Q I rx ry h
  obtain ⟨W, d, e, r, own, wok, bx, by', f, q⟩ := h
  obtain ⟨b, f2, rfl, rfl⟩ := rC_split f
  clear f
  cases e <;> first | (exfalso; cases d <;> cases f2; done) | skip
  · rename_i z
    cases d <;> first | (exfalso; cases f2; done) | skip
    rename_i x0
    have f' : (inS x0 z).map (!·) = some b := f2
    unfold inS at f'
    split at f'
    · rename_i c hc
      cases f'
      have ex : x0 = ⟨#[c]⟩ := by
        obtain ⟨ar⟩ := x0
        have hc : ar.toList = [c] := hc
        have : ar = #[c] := Array.ext' (by simpa using hc)
        rw [this]
      exact op_notIn_sign pins s σ H x y v u Q I rx ry ⟨c, z, by rw [bx.str, ex], by'.str, q.bl⟩
    · cases f'
  · rename_i ys
    have f' : (if (eqOk d && PyData.canLayAll0 ys) = true then some (!anyIn d ys) else none) = some b := by cases d <;> exact f2
    by_cases z : (eqOk d && PyData.canLayAll0 ys) = true
    · rw [if_pos z] at f'
      cases f'
      obtain ⟨z1, z2⟩ := Bool.and_eq_true_iff.mp z
      obtain ⟨as, r1, _⟩ := rb_reads hS I d x v (plain_ok z1) bx rx
      obtain ⟨bs, r2, _⟩ := rb_reads hS I (.list ys) y u (plainA_lay ys z2) by' ry
      exact SeqAt.notIn_list_reads r2 r1 z2 (SeqAt.canLay_of_shaped z1) (room_in z1 hu) ⟨.bl _, H, I, by rw [anyIn_eq]; rfl, q.bl⟩
    · rw [if_neg z] at f'; cases f'
  · rename_i ys
    have f' : (if (eqOk d && PyData.canLayAll0 ys) = true then some (!anyIn d ys) else none) = some b := by cases d <;> exact f2
    by_cases z : (eqOk d && PyData.canLayAll0 ys) = true
    · rw [if_pos z] at f'
      cases f'
      obtain ⟨z1, z2⟩ := Bool.and_eq_true_iff.mp z
      obtain ⟨as, r1, _⟩ := rb_reads hS I d x v (plain_ok z1) bx rx
      obtain ⟨bs, r2, _⟩ := rb_reads hS I (.tuple ys) y u (plainA_lay ys z2) by' ry
      exact SeqAt.notIn_tuple_reads r2 r1 z2 (SeqAt.canLay_of_shaped z1) (room_in z1 hu) ⟨.bl _, H, I, by rw [anyIn_eq]; rfl, q.bl⟩
    · rw [if_neg z] at f'; cases f'
  · rename_i ys
    have f0 : (if okK ys = true then (keyOf d).map fun k => !(dgetD ys k).isSome else none) = some b := by cases d <;> exact f2
    by_cases ok : okK ys = true
    case neg => rw [if_neg ok] at f0; cases f0
    rw [if_pos ok] at f0
    have f' : ((keyOf d).map fun k => !(dgetD ys k).isSome) = some b := f0
    cases hk : keyOf d with
    | none => rw [hk] at f'; cases f'
    | some k =>
      rw [hk] at f'
      cases f'
      obtain ⟨ex, _⟩ := keyOf_kV bx hk
      subst ex
      obtain ⟨a, kvs, rfl, ra, la, qa⟩ := by'.dct ok
      cases ry
      have es : (valV kvs k).isSome = (dgetD ys k).isSome := by
        rcases rpK_get (k := k) qa with ⟨e1, e2⟩ | ⟨v, d, e1, e2, _⟩ <;> (rw [e1, e2]; try rfl)
      refine d_notIn (by omega) I (dgk ra) rx fun s' I' => ⟨.bl _, H, I', by rw [es]; rfl, q.bl⟩
def cmpHas : CmpOp → Bool
  | .Is | .IsNot => false
  | _ => true
theorem opC_cmp {o : CmpOp} (h : cmpHas o = true) (hS : ∃ o, X.K.lookup sysModules = some o) (hu : X.A.units + 65 < cLine) : OpR X (compareOp o) (rC o) := by
  cases o <;> first | cases h | skip
  · exact opC_eq hS hu
  · exact opC_ne hS hu
  · exact opC_lt
  · exact opC_le
  · exact opC_gt
  · exact opC_ge
  · exact opC_in hS hu
  · exact opC_notin hS hu

/-! ### is None, is True, is False -/
def singV : Sing → V
  | .non => .non
  | .tru => .bl true
  | .fal => .bl false
def rIs (g : Sing) (n : Bool) : R2 := fun x y H Q => ∃ (W : Addr → Prop) (d : D), RB W H x d ∧ y = singV g ∧ Q (.bl (isD d g != n)) H
def singU : Sing → Value
  | .non => .none
  | .tru => .bool true
  | .fal => .bool false
theorem sing_rel {g : Sing} {u : Value} (r : RelV (singV g) u) : u = singU g := by cases g <;> exact r
theorem isD_eq {W : Addr → Prop} {H : Hp} {x : V} {d : D} {v : Value} (g : Sing) (b : RB W H x d) (r : RelV x v) :
    plainIs v (singU g) = true ∧ (v == singU g) = isD d g := by
  cases d with
  | none =>
    have e := b.non
    subst e
    cases r
    cases g <;> exact ⟨rfl, rfl⟩
  | bool c =>
    have e := b.bl
    subst e
    cases r
    cases g <;> cases c <;> exact ⟨rfl, rfl⟩
  | int i =>
    have e := b.int
    subst e
    obtain ⟨t, rfl⟩ := r
    cases g <;> exact ⟨rfl, rfl⟩
  | str i =>
    have e := b.str
    subst e
    obtain ⟨t, rfl⟩ := r
    cases g <;> exact ⟨rfl, rfl⟩
  | list ds =>
    obtain ⟨a, xs, rfl, _⟩ := b.lst
    cases r
    cases g <;> exact ⟨rfl, rfl⟩
  | tuple ds =>
    obtain ⟨a, xs, rfl, _⟩ := b.tup
    cases r
    cases g <;> exact ⟨rfl, rfl⟩
  | dict ds =>
    obtain ⟨a, rfl⟩ := b.ref
    cases r
    cases g <;> exact ⟨rfl, rfl⟩
theorem opI_is (g : Sing) : OpR X (compareOp .Is) (rIs g false) := by
  intro pins s σ H x y v u Q I rx ry h
  obtain ⟨W, d, b, rfl, q⟩ := h
  rw [sing_rel ry]
  obtain ⟨h1, h2⟩ := isD_eq g b rx
  refine wpAny_is_plain h1 ⟨.bl _, H, I, ?_, q⟩
  show Value.bool _ = Value.bool _
  rw [h2]
  cases isD d g <;> rfl
theorem opI_isnot (g : Sing) : OpR X (compareOp .IsNot) (rIs g true) := by
  intro pins s σ H x y v u Q I rx ry h
  obtain ⟨W, d, b, rfl, q⟩ := h
  rw [sing_rel ry]
  obtain ⟨h1, h2⟩ := isD_eq g b rx
  refine wpAny_isNot_plain h1 ⟨.bl _, H, I, ?_, q⟩
  show Value.bool _ = Value.bool _
  rw [h2]
  cases isD d g <;> rfl

/-! ### items and slices -/
theorem atI_rp {W : Addr → Prop} {H : Hp} {xs : List V} {ds : List D} {i : Int} {d : D} (r : RpA W H xs ds) (h : atI ds i = some d) : ∃ v, atI xs i = some v ∧ Rp W H v d := by
  unfold atI at h ⊢
  rw [r.length]
  cases q : ixN ds.length i with
  | none => rw [q] at h; cases h
  | some j =>
    rw [q] at h
    exact r.get (n := j) h
def rIdx : R2 := r2 fun d e => (idxD d e).map fun r => (r, false)
theorem ixD (hu : X.A.units + 65 < cLine) : IxR X rIdx := by
  intro value slice pins s σ H x y v u Q I rx ry h hs
  obtain ⟨W, d, e, r, own, wok, bx, by', f, q⟩ := h
  have hf : ∃ r', idxD d e = some r' ∧ r = r' ∧ own = false := by
    have f0 : (idxD d e).map (fun r => (r, false)) = some (r, own) := f
    cases hq : idxD d e with
    | none => rw [hq] at f0; cases f0
    | some r' =>
      rw [hq] at f0
      have f' : some (r', false) = some (r, own) := f0
      cases f'
      exact ⟨_, rfl, rfl, rfl⟩
  obtain ⟨r', hf, rfl, rfl⟩ := hf
  by_cases hd : ∃ xs, d = .dict xs
  · obtain ⟨xs, rfl⟩ := hd
    have f0 : (if okK xs = true then (keyOf e).bind (dgetD xs) else none) = some r := hf
    by_cases ok : okK xs = true
    case neg => rw [if_neg ok] at f0; cases f0
    rw [if_pos ok] at f0
    have f' : (keyOf e).bind (dgetD xs) = some r := f0
    cases hk : keyOf e with
    | none => rw [hk] at f'; cases f'
    | some k =>
      rw [hk] at f'
      have f' : dgetD xs k = some r := f'
      obtain ⟨ey, _⟩ := keyOf_kV by' hk
      subst ey
      obtain ⟨a, kvs, rfl, ra, la, qa⟩ := bx.dct ok
      cases rx
      rcases rpK_get (k := k) qa with ⟨_, e2⟩ | ⟨w, d', e1, e2, rw'⟩
      · rw [e2] at f'; cases f'
      · rw [e2] at f'
        cases f'
        have g : DGet H a (kV k) (some w) := by rw [← e1]; exact dgk ra
        exact tail_any (dict_typeIs I g) F.slot_dict_getitem.lookup (d_getItem (by omega) I g ry fun w' s3 I3 rw2 => ⟨w, H, I3, rw2, q.old rw'⟩) hs
  have hd' : ∀ xs, d ≠ .dict xs := fun xs z => hd ⟨xs, z⟩
  cases d <;> first | (exfalso; exact hd' _ rfl) | skip
  all_goals cases e <;> first | (exfalso; cases hf; done) | skip
  · rename_i z i
    have f' : (if z.length ≤ sizeLine then (atI z.cps.toList i).map fun c => PyData.str ⟨#[c]⟩ else none) = some r := hf
    by_cases l : z.length ≤ sizeLine
    · rw [if_pos l] at f'
      cases hq : atI z.cps.toList i with
      | none => rw [hq] at f'; cases f'
      | some c =>
        rw [hq] at f'
        have f2 : some (PyData.str ⟨#[c]⟩) = some r := f'
        cases f2
        exact ix_str value slice pins s σ H x y v u Q I rx ry ⟨z, i, c, bx.str, by'.int, l, hq, q.str⟩ hs
    · rw [if_neg l] at f'; cases f'
  · rename_i xs i
    have f' : atI xs i = some r := hf
    obtain ⟨a, vs, rfl, ra, la, qa⟩ := bx.lst
    obtain ⟨w, hw, rw'⟩ := atI_rp qa f'
    exact ix_list value slice pins s σ H _ y v u Q I rx ry ⟨a, vs, i, w, rfl, by'.int, sqL ra, hw, q.old rw'⟩ hs
  · rename_i xs i
    have f' : atI xs i = some r := hf
    obtain ⟨a, vs, rfl, ra, la, qa, na⟩ := bx.tup
    obtain ⟨w, hw, rw'⟩ := atI_rp qa f'
    exact ix_tup value slice pins s σ H _ y v u Q I rx ry ⟨a, vs, i, w, rfl, by'.int, sqT ra, hw, q.old rw'⟩ hs
def rSl : V → Option Int → Option Int → Hp → VK → Prop := fun x lo hi H Q => ∃ (W : Addr → Prop) (d r : D) (own : Bool), (∀ b, W b → ∃ o, H b = some o) ∧ RB W H x d ∧ slD d lo hi = some (r, own) ∧ New W H r own Q
theorem cut_rp {W : Addr → Prop} {H : Hp} {xs : List V} {ds : List D} (r : RpA W H xs ds) (lo hi : Option Int) : RpA W H (cutV xs lo hi) (cut ds lo hi) := by
  unfold cutV cut
  rw [r.length]
  exact (r.drop _).take _
theorem slDr : SlR X rSl := by
  intro pins s σ H x v vl vu lo hi sl Q I rx hs pl pu h
  obtain ⟨W, d, r, own, wok, bx, f, q⟩ := h
  cases d <;> first | (exfalso; cases f; done) | skip
  · rename_i z
    have f' : (if z.length ≤ sizeLine then some (PyData.str (cutS z lo hi), false) else none) = some (r, own) := f
    by_cases l : z.length ≤ sizeLine
    · rw [if_pos l] at f'
      cases f'
      exact sl_str pins s σ H x v vl vu lo hi sl Q I rx hs pl pu ⟨z, bx.str, l, q.str⟩
    · rw [if_neg l] at f'; cases f'
  · rename_i ds
    have f' : some (PyData.list (cut ds lo hi), true) = some (r, own) := f
    cases f'
    obtain ⟨a, xs, rfl, ra, la, qa⟩ := bx.lst
    exact sl_list pins s σ H _ v vl vu lo hi sl Q I rx hs pl pu ⟨a, xs, rfl, sqL ra, fun p n => q.lst n (Nat.le_trans (cutV_length xs lo hi) la) (cut_rp qa lo hi)⟩
  · rename_i ds
    have f' : some (PyData.tuple (cut ds lo hi), false) = some (r, own) := f
    cases f'
    obtain ⟨a, xs, rfl, ra, la, qa, na⟩ := bx.tup
    refine sl_tupA pins s σ H _ v vl vu lo hi sl Q I rx hs pl pu ⟨a, xs, rfl, sqT ra, fun z => ?_, fun _ p n => q.tup wok n (Nat.le_trans (cutV_length xs lo hi) la) (cut_rp qa lo hi)⟩
    obtain ⟨z1, z2⟩ := z
    have hc : cut ds lo hi = ds := by
      unfold cut
      rw [← qa.length, z1, z2, List.drop_zero, Nat.sub_zero, qa.length, List.take_length]
    rw [hc] at q
    exact q.old (.tup na la ra qa)
end
end TL
namespace TL
open PySem PySem.Spec PyProof.Rows L2
variable [Plc]
abbrev digK : Str := "sys.int_max_str_digits"
section
variable {prog : Program} {w : World} {A : Around} {E : Value → Shared → Prop} {s : Shared}
theorem dig_none {a : Int} {m : Str → Option Value} {Q : Option Nat → Shared → Prop} (ha : a.natAbs.log2 < 12000) (hn : s.heap.Ns cStatics m) (hk : m digK = none) (h : Q none s) : wpAny (model prog w) A (Builtin.overDigitLimit? a) Q E s := by
  unfold Builtin.overDigitLimit?
  by_cases z : a.natAbs.log2 < 1920
  · rw [if_pos z]; exact wpAny_pure h
  · rw [if_neg z]
    refine wpAny_bind (m := Builtin.intMaxStrDigits) ?_
    unfold Builtin.intMaxStrDigits
    refine wpAny_bind (wpAny_nsGet hn ?_)
    rw [hk]
    refine wpAny_pure ?_
    have c1 : ¬ (a.natAbs.log2 / 30 + 1 > 1000) := by omega
    have c2 : ((4300 : Nat) == 0 || decide (a.natAbs.log2 < 3 * 4300)) = true := by
      rw [decide_eq_true (show a.natAbs.log2 < 3 * 4300 by omega)]; rfl
    dsimp only
    rw [if_neg c1]
    first
      | (rw [if_pos (by simpa using c2)]; exact wpAny_pure h)
      | (simp only [pure_bind]; rw [if_pos (by simpa using c2)]; exact wpAny_pure h)
theorem text_fits {a : Int} (h : a.natAbs.log2 < 12000) : (PySem.Str.ofString (toString a)).length ≤ sizeLine := by
  have e := int_text_length_le (k := 12000) (by decide) h
  rw [PySem.ofString_length, sizeLine_eq]; omega
theorem repr_big {a : Int} {t : Tok} {m : Str → Option Value} {Q : Value → Shared → Prop} (ha : a.natAbs.log2 < 12000) (hn : s.heap.Ns cStatics m) (hk : m digK = none) (h : Q (.str (toString a) s.toks) { s with toks := s.toks + 1 }) :
    wpAny (model prog w) A (call (.builtin "int.__repr__") [.int a t]) Q E s := by
  refine wpAny_call_entry F.slot_int_repr (typeIs_int s a t) F.entry_int_repr ?_ (F.args_int_repr_1 _)
  unfold Builtin.«int.__repr__»
  refine wpAny_bind (wpAny_pure ?_)
  refine wpAny_bind (dig_none ha hn hk ?_)
  dsimp only
  refine wpAny_bind (wpAny_mkStr ?_ (text_fits ha))
  exact wpAny_pure ⟨_, rfl, h⟩
theorem str_big {a : Int} {t : Tok} {m : Str → Option Value} {Q : Value → Shared → Prop} (ha : a.natAbs.log2 < 12000) (hn : s.heap.Ns cStatics m) (hk : m digK = none) (h : Q (.str (toString a) s.toks) { s with toks := s.toks + 1 }) :
    wpAny (model prog w) A (call (.type "str") [.int a t]) Q E s := by
  have hv : [Value.int a t].any Value.onHeap = false := rfl
  refine callType_new F.called_str (by decide) (F.typeCall_str_1 _) (F.newCall_str_1 _) (fun obj => F.args_object_init_2 obj _) F.entry_str_new
    (meets_str_new (S := fun _ R s => s.heap.Ns cStatics m ∧ R (.ok (.ret (.str (toString a) s.toks))) { s with toks := s.toks + 1 }) fun prog w A R s hq => ?_) ⟨hn, typeIs_str _ _ _, h⟩
  obtain ⟨hn, hq⟩ := hq
  unfold Builtin.Str.strOf
  rw [show Builtin.Str.isExactStr (Value.int a t) = false from rfl]
  simp only [cRoomFor, hv, Bool.false_eq_true, if_false, pure_bind]
  refine wpAny_bind (m := callSpecial? (Value.int a t) (PySem.Str.ofString "__str__")) (wpAny_callSpecial?_slot (name := PySem.Str.ofString "__str__") (typeIs_int s a t) F.slot_int_str ?_)
  refine wpAny_call_entry F.slot_int_str (typeIs_int s a t) entry_object_str ?_ (args_object_str _)
  unfold Builtin.«object.__str__»
  refine wpAny_bind (m := slotArgs "__str__" 0 _) (wpAny_pure ?_)
  simp only [cRoomFor, hv, Bool.false_eq_true, if_false, pure_bind]
  refine wpAny_bind (m := callSpecialIfBound? (Value.int a t) (PySem.Str.ofString "__repr__")) (wpAny_callSpecialIfBound?_slot (name := PySem.Str.ofString "__repr__") (typeIs_int s a t) F.slot_int_repr (repr_big ha hn hk ?_))
  exact wpAny_pure ⟨_, rfl, wpAny_pure hq⟩
end
end TL
/-! TLE: enumerate of a text, sorted of a text. -/
namespace TL
open PySem PySem.Spec PyProof.Rows L2
variable [Plc]

/-- a text's signs, each in a new pair -/
def IteS (x : Str) : L2.It := ⟨fun i _ => i < x.cps.size, fun i H v H' => ∃ T c, v = .ref T ∧ H T = none ∧ x.cps[i]? = some c ∧ H' = upd H T (.tup [.int (i : Nat), .str ⟨#[c]⟩]), fun i _ => x.cps.size ≤ i⟩
theorem turn_enumS {P : Program} {w : World} {K : PySem.W.Frag} {elts : List Expr} {kk : Nat} {tpos : Pos} (x : Str) (t : Tok) (ty : String) (hty : ty = "str_ascii_iterator" ∨ ty = "str_iterator") (e it : Addr) :
    Turn P w K (.Tuple elts kk tpos) (IteS x) [e, it] e (fun i h => (∃ old, IsEnum h e it ((i : Nat) : Int) old) ∧ h.IsStrIter it ty x t i ∧ e ≠ it ∧ i ≤ x.cps.size) where
  mem := by simp
  obj := fun i h st b hb => by
    obtain ⟨⟨old, he⟩, ⟨o, ho, hc, hd⟩, _⟩ := st
    have e' : b = e ∨ b = it := by simpa using hb
    rcases e' with z | z
    · rw [z]; exact ⟨_, he, fun v q => nomatch q⟩
    · rw [z]; exact ⟨o, ho, fun v q => by rw [hd] at q; cases q⟩
  keep := fun i h h' st k => let ⟨⟨old, he⟩, ⟨o, ho, r⟩, hne, hle⟩ := st; ⟨⟨old, k e (by simp) _ he⟩, ⟨o, k it (by simp) o ho, r⟩, hne, hle⟩
  item := by
    intro X hP hw hK hc i pins s σ H E I hf st hg
    subst hP hw hK
    obtain ⟨⟨old, he⟩, hit, hne, hle⟩ := st
    have hel : e < s.heap.objs.size := Heap.lt_size he
    have hil : it < s.heap.objs.size := by obtain ⟨_, q, _⟩ := hit; exact Heap.lt_size q
    have hh : X.A.in1.handled = none := I.ok.hd hc
    have D : Draws X.prog X.w X.A.in1 it [it] x.cps.size (fun i v => ∃ c u, x.cps[i]? = some c ∧ v = .str ⟨#[c]⟩ u) (fun i h => h.IsStrIter it ty x t i) := by
      rcases hty with z | z
      · rw [z]; exact Draws.strAscii hh it x t
      · rw [z]; exact Draws.strWide hh it x t
    refine wpAny_pyNext_enum_itemD D he hit hg hne (by simpa using hne) fun v h' tk hv ho hit' hT hsz hk => ?_
    obtain ⟨c, u, hcx, rfl⟩ := hv
    refine ⟨_, rfl, wpAny_letOwnedTupleGo_enum (s := { s with heap := h', toks := tk + 1 }) ho fun h'' he' sb => ?_⟩
    have hT2 : h''.get? s.heap.objs.size = some { cls := .type "tuple", data := .seq #[.int i tk, .str ⟨#[c]⟩ u] } := (sb.2 _ (Nat.ne_of_gt hel)).trans hT
    have new : ObjOk X.prog X.w (upd H s.heap.objs.size (.tup [.int (i : Nat), .str ⟨#[c]⟩])) h'' s.heap.objs.size (.tup [.int (i : Nat), .str ⟨#[c]⟩]) :=
      ⟨by show 2 ≤ sizeLine; decide, [.int i tk, .str ⟨#[c]⟩ u], .cons ⟨_, rfl⟩ (.cons ⟨_, rfl⟩ .nil), ⟨_, hT2, rfl, _, rfl⟩⟩
    have I1 : Inv X pins σ (upd H s.heap.objs.size (.tup [.int (i : Nat), .str ⟨#[c]⟩])) { s with heap := h'', toks := tk + 1 } :=
      I.turnedNew (ch := [e, it]) (fun b ob hb q => (sb.2 b (fun z => hb (by simp [z]))).trans (hk b ob (fun z => hb (by simp [z])) (fun z => hb (by simp [z])) q)) hf (Nat.le_refl _) new
    refine ⟨.ref s.heap.objs.size, _, I1, rfl, ⟨_, c, rfl, I.hok.fresh (Nat.le_refl _), hcx, rfl⟩, ⟨⟨.str ⟨#[c]⟩ u, ?_⟩, ?_, hne, hg⟩, fun b hb => ?_⟩
    · have e1 : ((i + 1 : Nat) : Int) = (i : Int) + 1 := by omega
      rw [e1]; exact he'
    · obtain ⟨o, ho', r⟩ := hit'
      exact ⟨o, (sb.2 it (Ne.symm hne)).trans ho', r⟩
    · have hb' : b < s.heap.objs.size := by
        have e' : b = e ∨ b = it := by simpa using hb
        rcases e' with z | z
        · rw [z]; exact hel
        · rw [z]; exact hil
      rw [upd_ne (Nat.ne_of_lt hb')]
      exact (hf b hb).1
  done := by
    intro X hP hw hK hc i pins s σ H E I hf st hg
    subst hP hw hK
    obtain ⟨⟨old, he⟩, hit, hne, hle⟩ := st
    have hg : x.cps.size ≤ i := hg
    have ei : i = x.cps.size := by omega
    subst ei
    have hh : X.A.in1.handled = none := I.ok.hd hc
    have D : Draws X.prog X.w X.A.in1 it [it] x.cps.size (fun i v => ∃ c u, x.cps[i]? = some c ∧ v = .str ⟨#[c]⟩ u) (fun i h => h.IsStrIter it ty x t i) := by
      rcases hty with z | z
      · rw [z]; exact Draws.strAscii hh it x t
      · rw [z]; exact Draws.strWide hh it x t
    obtain ⟨f0, f1, f2, f3, f4, f5⟩ := hf it (by simp)
    exact wpAny_pyNext_enum_endD D he hit fun h' eb => ⟨rfl, I.turned (t' := s.toks) (fun b o hb q => eb b o hb q) f0 f1 f3 f4 f5⟩
  self := fun A i s Q E st h => let ⟨⟨_, he⟩, _⟩ := st; wpAny_pyIter_enum he h
def iEnumS (ta : TA) : TI := fun σ H R => ta σ H fun vs H1 => ∃ x, vs = [.str x] ∧ R (IteS x) H1
theorem ity (x : Str) : strIterType x = "str_ascii_iterator" ∨ strIterType x = "str_iterator" := by
  unfold strIterType
  split
  · exact .inl rfl
  · exact .inr rfl
theorem pi_enumS {X : Cx} {e : Expr} {ta : TA} {p pos tpos : Pos} {elts : List Expr} {kk : Nat} (hg : Gl X "enumerate") (hm : X.mg "enumerate" = none) (ha : PA X [e] ta) (hs : starEach [e] X.env = [(false, eval e X.env)] := by rfl) :
    PI X (.Tuple elts kk tpos) (.Call (.Name "enumerate" p) [e] [] pos) (iEnumS ta) := by
  refine ⟨fun pins s σ H R I h => ?_⟩
  refine Call_ (ld_blt I hg hm boot_enumerate (PyProof.Rows.callWith_type1 (thn (ha.run pos pins s σ H _ I h) fun us s1 ⟨vs, H1, I1, r1, q1⟩ => ?_) hs rfl))
  obtain ⟨x, ex, q⟩ := q1
  subst ex
  cases r1 with
  | cons r rr =>
    cases rr
    obtain ⟨t, rfl⟩ := r
    refine call_enumerate_str fun h' he hit hsz hk => wpAny_pyIter_enum he ?_
    have I2 : Inv X pins σ H1 { s1 with heap := h' } := I1.kept (t' := s1.toks) hk
    refine ⟨s1.heap.objs.size + 1, [s1.heap.objs.size + 1, s1.heap.objs.size], _, _, H1, rfl, I2, turn_enumS x t _ (ity x) (s1.heap.objs.size + 1) s1.heap.objs.size, ⟨⟨.none, he⟩, hit, Nat.succ_ne_self _, Nat.zero_le _⟩, fun b hb => ?_, q⟩
    have e' : b = s1.heap.objs.size + 1 ∨ b = s1.heap.objs.size := by simpa using hb
    have hle : s1.heap.objs.size ≤ b := by
      rcases e' with z | z
      · rw [z]; exact Nat.le_add_right _ _
      · rw [z]; exact Nat.le_refl _
    exact I1.fpOk hle (I1.hok.fresh hle)

/-- sorted(z) of a text of fewer than 64 signs -/
theorem cr_sortedTxt {X : Cx} (hcalm : X.calm = true) : CallR X (.builtin "sorted") (fun xs H Q => ∃ z : Str, xs = [.str z] ∧ z.length < 64 ∧
    ∀ ys p, ys.Perm (chS z) → sortedS ys = true → H p = none → Q (.ref p) (upd H p (.lst (ys.map V.str)))) := by
  intro pins s σ H xs us Q I r q
  obtain ⟨z, ex, h64, q⟩ := q
  subst ex
  obtain ⟨u, eu, rx⟩ := vals1 r
  subst eu
  obtain ⟨t, rfl⟩ := rx
  have h64' : z.cps.size < 64 := h64
  have h16 : z.cps.size ≤ sizeLine := by rw [sizeLine_eq]; omega
  refine Calls.call_function_entry PyProof.Rows.kind_sorted PyProof.Rows.plain_sorted PyProof.Rows.entry_sorted (PyProof.Rows.args_sorted1 _) ?_
  unfold Builtin.«sorted»
  refine wpAny_bind (m := checkCount "sorted" 1 1 _) (wpAny_pure ?_)
  refine wpAny_bind (wpAny_collect_str (A := X.A.in1) (I.ok.hd hcalm) z t (hn := h16) fun s' acc hk hg hdr hos hacc => ?_)
  obtain ⟨hp, g, d, tk, os⟩ := s'
  have hg' : g = s.gens := hg
  have hdr' : d = s.drawn := hdr
  have hos' : os = s.os := hos
  subst hg' hdr' hos'
  have hk : ∀ b o, s.heap.get? b = some o → hp.get? b = some o := hk
  have cl : (chS z).length = z.cps.size := by unfold chS; simp
  have hal : acc.toList.length = (chS z).length := by rw [Array.length_toList, hacc.1, cl]
  have hS : StrsAre acc.toList (chS z) := strs_at hal fun j v e => by
    obtain ⟨c, u, h1, h2⟩ := hacc.2 j v (by rw [← Array.getElem?_toList]; exact e)
    refine ⟨⟨#[c]⟩, u, ?_, h2⟩
    unfold chS
    rw [List.getElem?_map, Array.getElem?_toList, h1]
    rfl
  have l64 : acc.toList.length < 64 := by rw [hal, cl]; exact h64'
  have I1 : Inv X pins σ H { s with heap := hp, toks := tk } := I.kept hk
  refine wpAny_bind (wpAny_newList ?_ (by rw [sizeLine_eq]; omega))
  have hoL : (hp.push (seqObj "list" acc.toList.toArray 0)).get? hp.objs.size = some (seqObj "list" acc.toList.toArray 0) := Heap.get?_push_size _ rfl
  show wpAny _ _ _ _ _ { s with heap := hp.push (seqObj "list" acc.toList.toArray 0), toks := tk }
  refine wpAny_bind (wpAny_holding (wpAny_call_entry PyProof.Rows.slot_list_sort ⟨_, hoL, rfl⟩ PyProof.Rows.entry_list_sort
    (list_sort_treeK strKind_oneLt (s := { s with heap := hp.push (seqObj "list" acc.toList.toArray 0), toks := tk }) hoL hS.keysOf (fun v₁ v₂ rest e => keyKind_strs (by rw [← e]; exact hS)) l64 fun st' hp' hs => ⟨_, rfl, ?_⟩)
    (PyProof.Rows.args_list_sort _)))
  obtain ⟨ys, g1, g2, g3⟩ := sorted_out_str hS hp' hs
  obtain ⟨e', he'⟩ := PyProof.Rows.sortedHeap_at (vs := acc.toList) (out := (arrOf st').map (·.2)) hoL
  have hlen : (ys.map V.str).length ≤ sizeLine := by
    rw [List.length_map, g2.length_eq, cl, sizeLine_eq]
    omega
  refine wpAny_pure ⟨_, rfl, .ref hp.objs.size, upd H hp.objs.size (.lst (ys.map V.str)), I1.laid (t' := tk) (fun b u e => ?_) (Nat.le_refl _)
    (show ObjOk X.prog X.w _ _ _ (.lst (ys.map V.str)) from ⟨hlen, ((arrOf st').map (·.2)).toList, e', vals_of_strs g1, by rw [Array.toArray_toList]; exact he'⟩), rfl, q ys _ g2 g3 (I1.hok.fresh (Nat.le_refl _))⟩
  have hb : b < hp.objs.size := Heap.lt_size e
  rw [PyProof.Rows.sortedHeap_old (Nat.ne_of_lt hb) (by rw [size_push']; exact Nat.lt_succ_of_lt hb)]
  exact Heap.get?_push_of_some _ e
end TL
/-! TL4: built-in functions over data trees. -/
namespace TL
open PySem PySem.Spec PyProof.Rows L2
variable [Plc]

abbrev RBs (W : Addr → Prop) (H : Hp) : List V → List D → Prop := Paired (RB W H)
def rBI (f : List D → Option (D × Bool)) : List V → Hp → VK → Prop := fun xs H Q =>
  ∃ (W : Addr → Prop) (ds : List D) (r : D) (own : Bool), (∀ b, W b → ∃ o, H b = some o) ∧ RBs W H xs ds ∧ f ds = some (r, own) ∧ New W H r own Q

/-- how a built-in function stands among the builtins -/
inductive BK where
  | fn (id : String)
  | ty (id : String)
def BI.nm : BI → String
  | .len => "len" | .int => "int" | .max => "max" | .min => "min" | .sum => "sum" | .repr => "repr" | .all => "all" | .any => "any" | .list => "list" | .tuple => "tuple" | .abs => "abs" | .str => "str" | .sorted => "sorted" | .dict => "dict"
def BI.val : BI → Value
  | .len => .builtin "len" | .int => .type "int" | .max => .builtin "max" | .min => .builtin "min" | .sum => .builtin "sum" | .repr => .builtin "repr" | .all => .builtin "all" | .any => .builtin "any"
  | .list => .type "list" | .tuple => .type "tuple" | .abs => .builtin "abs" | .str => .type "str" | .sorted => .builtin "sorted" | .dict => .type "dict"

theorem maxI_iff : ∀ {ns : List Int} {m : Int}, maxI ns = some m → m ∈ ns ∧ ∀ y, y ∈ ns → y ≤ m
  | [], m, h => by cases h
  | x :: r, m, h => by
    unfold maxI at h
    cases q : maxI r with
    | none =>
      rw [q] at h
      have h' : some x = some m := h
      cases h'
      have hr : r = [] := by
        cases r with
        | nil => rfl
        | cons y t =>
          unfold maxI at q
          cases q2 : maxI t <;> rw [q2] at q <;> cases q
      subst hr
      exact ⟨by simp, fun y hy => by simp at hy; omega⟩
    | some k =>
      rw [q] at h
      have h' : some (if k > x then k else x) = some m := h
      obtain ⟨h1, h2⟩ := maxI_iff q
      have e : (if k > x then k else x) = m := Option.some.inj h'
      by_cases z : k > x
      · rw [if_pos z] at e
        subst e
        refine ⟨List.mem_cons_of_mem _ h1, fun y hy => ?_⟩
        rcases List.mem_cons.mp hy with hy | hy
        · omega
        · exact h2 y hy
      · rw [if_neg z] at e
        subst e
        refine ⟨List.mem_cons_self, fun y hy => ?_⟩
        rcases List.mem_cons.mp hy with hy | hy
        · omega
        · have := h2 y hy; omega
theorem minI_iff : ∀ {ns : List Int} {m : Int}, minI ns = some m → m ∈ ns ∧ ∀ y, y ∈ ns → m ≤ y
  | [], m, h => by cases h
  | x :: r, m, h => by
    unfold minI at h
    cases q : minI r with
    | none =>
      rw [q] at h
      have h' : some x = some m := h
      cases h'
      have hr : r = [] := by
        cases r with
        | nil => rfl
        | cons y t =>
          unfold minI at q
          cases q2 : minI t <;> rw [q2] at q <;> cases q
      subst hr
      exact ⟨by simp, fun y hy => by simp at hy; omega⟩
    | some k =>
      rw [q] at h
      have h' : some (if k < x then k else x) = some m := h
      obtain ⟨h1, h2⟩ := minI_iff q
      have e : (if k < x then k else x) = m := Option.some.inj h'
      by_cases z : k < x
      · rw [if_pos z] at e
        subst e
        refine ⟨List.mem_cons_of_mem _ h1, fun y hy => ?_⟩
        rcases List.mem_cons.mp hy with hy | hy
        · omega
        · exact h2 y hy
      · rw [if_neg z] at e
        subst e
        refine ⟨List.mem_cons_self, fun y hy => ?_⟩
        rcases List.mem_cons.mp hy with hy | hy
        · omega
        · have := h2 y hy; omega

section
variable {X : Cx}
theorem one_of {W : Addr → Prop} {H : Hp} {xs : List V} {d : D} (h : RBs W H xs [d]) : ∃ x, xs = [x] ∧ RB W H x d := by
  cases h with
  | cons a t => cases t; exact ⟨_, rfl, a⟩
theorem two_of {W : Addr → Prop} {H : Hp} {xs : List V} {d e : D} (h : RBs W H xs [d, e]) : ∃ x y, xs = [x, y] ∧ RB W H x d ∧ RB W H y e := by
  cases h with
  | cons a t =>
    obtain ⟨y, rfl, b⟩ := one_of t
    exact ⟨_, _, rfl, a, b⟩
theorem bi_len : CallR X (.builtin "len") (rBI (biD .len)) := by
  intro pins s σ H vs us Q I rv h
  obtain ⟨W, ds, r, own, wok, rs, f, q⟩ := h
  match ds, rs, f with
  | [d], rs, f =>
    obtain ⟨x, rfl, b⟩ := one_of rs
    cases d <;> first | (exfalso; cases f; done) | skip
    · rename_i z
      have f' : (if z.length ≤ sizeLine then some (PyData.int z.length, false) else none) = some (r, own) := f
      by_cases l : z.length ≤ sizeLine
      · rw [if_pos l] at f'
        cases f'
        exact call_len pins s σ H _ us Q I rv ⟨x, z.length, rfl, by rw [b.str]; exact ⟨l, rfl⟩, q.int⟩
      · rw [if_neg l] at f'; cases f'
    · rename_i ds
      have f' : some (PyData.int ds.length, false) = some (r, own) := f
      cases f'
      obtain ⟨a, xs, rfl, ra, la, qa⟩ := b.lst
      exact call_len pins s σ H _ us Q I rv ⟨_, ds.length, rfl, .inl ⟨xs, sqL ra, qa.length.symm⟩, q.int⟩
    · rename_i ds
      have f' : some (PyData.int ds.length, false) = some (r, own) := f
      cases f'
      obtain ⟨a, xs, rfl, ra, la, qa, _⟩ := b.tup
      exact call_len pins s σ H _ us Q I rv ⟨_, ds.length, rfl, .inr ⟨xs, sqT ra, qa.length.symm⟩, q.int⟩
    · rename_i ds
      have f' : (if okK ds = true then some (PyData.int ds.length, false) else none) = some (r, own) := f
      by_cases ok : okK ds = true
      case neg => rw [if_neg ok] at f'; cases f'
      rw [if_pos ok] at f'
      cases f'
      obtain ⟨a, kvs, rfl, ra, la, qa⟩ := b.dct ok
      rw [← rpK_len qa] at q
      obtain ⟨u, rfl, ru⟩ := vals1 rv
      cases ru
      exact d_len I ra fun t s' I' => ⟨.int kvs.length, H, I', ⟨t, rfl⟩, q.int⟩
  | d :: _ :: _, rs, f => exact (by cases d <;> cases f)
theorem bi_int : CallR X (.type "int") (rBI (biD .int)) := by
  intro pins s σ H vs us Q I rv h
  obtain ⟨W, ds, r, own, wok, rs, f, q⟩ := h
  match ds, rs, f with
  | [d], rs, f =>
    obtain ⟨x, rfl, b⟩ := one_of rs
    cases d <;> first | (exfalso; cases f; done) | skip
    · rename_i z
      have f' : some (PyData.int (if z then 1 else 0), false) = some (r, own) := f
      cases f'
      exact call_int1 pins s σ H _ us Q I rv (.inr ⟨z, by rw [b.bl], q.int⟩)
    · rename_i i
      have f' : some (PyData.int i, false) = some (r, own) := f
      cases f'
      exact call_int1 pins s σ H _ us Q I rv (.inl ⟨i, by rw [b.int], q.int⟩)
    · rename_i z
      have f' : (if z.length ≤ 640 then (PySem.intText? z).map fun n => (PyData.int n, false) else none) = some (r, own) := f
      by_cases l : z.length ≤ 640
      · rw [if_pos l] at f'
        cases hq : PySem.intText? z with
        | none => rw [hq] at f'; cases f'
        | some n =>
          rw [hq] at f'
          cases f'
          exact call_int_str pins s σ H _ us Q I rv ⟨z, n, by rw [b.str], hq, l, q.int⟩
      · rw [if_neg l] at f'; cases f'
  | d :: _ :: _, rs, f => exact (by cases d <;> cases f)
theorem bi_abs : CallR X (.builtin "abs") (rBI (biD .abs)) := by
  intro pins s σ H vs us Q I rv h
  obtain ⟨W, ds, r, own, wok, rs, f, q⟩ := h
  match ds, rs, f with
  | [d], rs, f =>
    obtain ⟨x, rfl, b⟩ := one_of rs
    cases d <;> first | (exfalso; cases f; done) | skip
    rename_i i
    have f' : some (PyData.int (if i < 0 then -i else i), false) = some (r, own) := f
    cases f'
    exact call_abs pins s σ H _ us Q I rv ⟨i, by rw [b.int], q.int⟩
  | d :: _ :: _, rs, f => exact (by cases d <;> cases f)
theorem bi_max (hc : X.calm = true) : CallR X (.builtin "max") (rBI (biD .max)) := by
  intro pins s σ H vs us Q I rv h
  obtain ⟨W, ds, r, own, wok, rs, f, q⟩ := h
  match ds, rs, f with
  | [d], rs, f =>
    obtain ⟨x, rfl, b⟩ := one_of rs
    cases d <;> first | (exfalso; cases f; done) | skip
    rename_i ds
    have f' : ((asInts ds).bind fun ns => (maxI ns).map fun m => (PyData.int m, false)) = some (r, own) := f
    cases h1 : asInts ds with
    | none => rw [h1] at f'; cases f'
    | some ns =>
      rw [h1] at f'
      have f2 : ((maxI ns).map fun m => (PyData.int m, false)) = some (r, own) := f'
      cases h2 : maxI ns with
      | none => rw [h2] at f2; cases f2
      | some m =>
        rw [h2] at f2
        have f3 : some (PyData.int m, false) = some (r, own) := f2
        cases f3
        obtain ⟨a, xs, rfl, ra, la, qa⟩ := b.lst
        have ex := qa.ints h1
        subst ex
        obtain ⟨m1, m2⟩ := maxI_iff h2
        refine cr_max hc pins s σ H _ us Q I rv ⟨a, ns, rfl, sqL ra, List.length_pos_of_mem m1, fun k k1 k2 => ?_⟩
        have : k = m := Int.le_antisymm (m2 k k1) (k2 m m1)
        subst this
        exact q.int
  | [d, e], rs, f =>
    obtain ⟨x, y, rfl, b, c⟩ := two_of rs
    cases d <;> cases e <;> first | (exfalso; cases f; done) | skip
    rename_i i j
    have f' : some (PyData.int (if j > i then j else i), false) = some (r, own) := f
    cases f'
    exact call_max2 hc pins s σ H _ us Q I rv ⟨i, j, by rw [b.int, c.int], q.int⟩
  | d :: e :: _ :: _, rs, f => exact (by cases d <;> cases e <;> cases f)
theorem bi_min (hc : X.calm = true) : CallR X (.builtin "min") (rBI (biD .min)) := by
  intro pins s σ H vs us Q I rv h
  obtain ⟨W, ds, r, own, wok, rs, f, q⟩ := h
  match ds, rs, f with
  | [d], rs, f =>
    obtain ⟨x, rfl, b⟩ := one_of rs
    cases d <;> first | (exfalso; cases f; done) | skip
    rename_i ds
    have f' : ((asInts ds).bind fun ns => (minI ns).map fun m => (PyData.int m, false)) = some (r, own) := f
    cases h1 : asInts ds with
    | none => rw [h1] at f'; cases f'
    | some ns =>
      rw [h1] at f'
      have f2 : ((minI ns).map fun m => (PyData.int m, false)) = some (r, own) := f'
      cases h2 : minI ns with
      | none => rw [h2] at f2; cases f2
      | some m =>
        rw [h2] at f2
        have f3 : some (PyData.int m, false) = some (r, own) := f2
        cases f3
        obtain ⟨a, xs, rfl, ra, la, qa⟩ := b.lst
        have ex := qa.ints h1
        subst ex
        obtain ⟨m1, m2⟩ := minI_iff h2
        refine cr_min hc pins s σ H _ us Q I rv ⟨a, ns, rfl, sqL ra, List.length_pos_of_mem m1, fun k k1 k2 => ?_⟩
        have : k = m := Int.le_antisymm (k2 m m1) (m2 k k1)
        subst this
        exact q.int
  | [d, e], rs, f =>
    obtain ⟨x, y, rfl, b, c⟩ := two_of rs
    cases d <;> cases e <;> first | (exfalso; cases f; done) | skip
    rename_i i j
    have f' : some (PyData.int (if j < i then j else i), false) = some (r, own) := f
    cases f'
    exact call_min2 hc pins s σ H _ us Q I rv ⟨i, j, by rw [b.int, c.int], q.int⟩
  | d :: e :: _ :: _, rs, f => exact (by cases d <;> cases e <;> cases f)
theorem bi_sum (hc : X.calm = true) : CallR X (.builtin "sum") (rBI (biD .sum)) := by
  intro pins s σ H vs us Q I rv h
  obtain ⟨W, ds, r, own, wok, rs, f, q⟩ := h
  match ds, rs, f with
  | [d], rs, f =>
    obtain ⟨x, rfl, b⟩ := one_of rs
    cases d <;> first | (exfalso; cases f; done) | skip
    rename_i ds
    have f' : ((asInts ds).map fun ns => (PyData.int ns.sum, false)) = some (r, own) := f
    cases h1 : asInts ds with
    | none => rw [h1] at f'; cases f'
    | some ns =>
      rw [h1] at f'
      have f2 : some (PyData.int ns.sum, false) = some (r, own) := f'
      cases f2
      obtain ⟨a, xs, rfl, ra, la, qa⟩ := b.lst
      have ex := qa.ints h1
      subst ex
      exact cr_sum hc pins s σ H _ us Q I rv ⟨a, ns, rfl, sqL ra, q.int⟩
  | d :: _ :: _, rs, f => exact (by cases d <;> cases f)
theorem bi_all (hc : X.calm = true) : CallR X (.builtin "all") (rBI (biD .all)) := by
  intro pins s σ H vs us Q I rv h
  obtain ⟨W, ds, r, own, wok, rs, f, q⟩ := h
  match ds, rs, f with
  | [d], rs, f =>
    obtain ⟨x, rfl, b⟩ := one_of rs
    cases d <;> first | (exfalso; cases f; done) | skip
    rename_i ds
    have f' : ((asBools ds).map fun ns => (PyData.bool (ns.all id), false)) = some (r, own) := f
    cases h1 : asBools ds with
    | none => rw [h1] at f'; cases f'
    | some ns =>
      rw [h1] at f'
      have f2 : some (PyData.bool (ns.all id), false) = some (r, own) := f'
      cases f2
      obtain ⟨a, xs, rfl, ra, la, qa⟩ := b.lst
      have ex := qa.bools h1
      subst ex
      exact cr_all hc pins s σ H _ us Q I rv ⟨a, ns, rfl, sqL ra, q.bl⟩
  | d :: _ :: _, rs, f => exact (by cases d <;> cases f)
theorem bi_any (hc : X.calm = true) : CallR X (.builtin "any") (rBI (biD .any)) := by
  intro pins s σ H vs us Q I rv h
  obtain ⟨W, ds, r, own, wok, rs, f, q⟩ := h
  match ds, rs, f with
  | [d], rs, f =>
    obtain ⟨x, rfl, b⟩ := one_of rs
    cases d <;> first | (exfalso; cases f; done) | skip
    rename_i ds
    have f' : ((asBools ds).map fun ns => (PyData.bool (ns.any id), false)) = some (r, own) := f
    cases h1 : asBools ds with
    | none => rw [h1] at f'; cases f'
    | some ns =>
      rw [h1] at f'
      have f2 : some (PyData.bool (ns.any id), false) = some (r, own) := f'
      cases f2
      obtain ⟨a, xs, rfl, ra, la, qa⟩ := b.lst
      have ex := qa.bools h1
      subst ex
      exact cr_any hc pins s σ H _ us Q I rv ⟨a, ns, rfl, sqL ra, q.bl⟩
  | d :: _ :: _, rs, f => exact (by cases d <;> cases f)
theorem vals_signs : ∀ (cs : List Nat) (us : List Value), us.length = cs.length → (∀ (j : Nat) (v : Value), us[j]? = some v → ∃ c u, cs[j]? = some c ∧ v = .str ⟨#[c]⟩ u) → Vals (cs.map fun c => V.str ⟨#[c]⟩) us
  | [], [], _, _ => .nil
  | [], _ :: _, l, _ => nomatch l
  | _ :: _, [], l, _ => nomatch l
  | c :: cs, u :: us, l, h => by
    obtain ⟨c', t, e, ev⟩ := h 0 u rfl
    have e' : some c = some c' := e
    cases e'
    subst ev
    exact .cons ⟨t, rfl⟩ (vals_signs cs us (by simpa using l) fun j v q => h (j + 1) v q)
theorem rpA_signs {W : Addr → Prop} {H : Hp} : ∀ cs : List Nat, RpA W H (cs.map fun c => V.str ⟨#[c]⟩) (cs.map fun c => PyData.str ⟨#[c]⟩)
  | [] => .nil
  | c :: r => .cons (.str _) (rpA_signs r)
theorem bi_list (hc : X.calm = true) : CallR X (.type "list") (rBI (biD .list)) := by
  intro pins s σ H vs us Q I rv h
  obtain ⟨W, ds, r, own, wok, rs, f, q⟩ := h
  match ds, rs, f with
  | [d], rs, f =>
    obtain ⟨x, rfl, b⟩ := one_of rs
    cases d <;> first | (exfalso; cases f; done) | skip
    · rename_i z
      have f' : (if z.length ≤ sizeLine then some (PyData.list (signsD z), true) else none) = some (r, own) := f
      by_cases l : z.length ≤ sizeLine
      · rw [if_pos l] at f'
        cases f'
        have ex := b.str
        subst ex
        obtain ⟨u, rfl, ru⟩ := vals1 rv
        obtain ⟨t, rfl⟩ := ru
        refine call_list_str (I.ok.hd hc) z t (hn := l) fun h' tk acc c' hk hD hacc => ?_
        have hv : Vals (z.cps.toList.map fun c => V.str ⟨#[c]⟩) acc.toList := vals_signs _ _ (by rw [Array.length_toList, Array.length_toList]; exact hacc.1) fun j v e => by
          obtain ⟨c, u, h1, h2⟩ := hacc.2 j v (by rw [← Array.getElem?_toList]; exact e)
          exact ⟨c, u, by rw [Array.getElem?_toList]; exact h1, h2⟩
        have hl : (z.cps.toList.map fun c => V.str ⟨#[c]⟩).length ≤ sizeLine := by rw [List.length_map, Array.length_toList]; exact l
        exact ⟨.ref s.heap.objs.size, upd H s.heap.objs.size (.lst (z.cps.toList.map fun c => V.str ⟨#[c]⟩)), I.laid (t' := tk) hk (Nat.le_refl _)
          (show ObjOk X.prog X.w _ _ _ (.lst _) from ⟨hl, acc.toList, c', hv, by rw [Array.toArray_toList]; exact hD⟩), rfl, q.lst (I.hok.fresh (Nat.le_refl _)) hl (rpA_signs _)⟩
      · rw [if_neg l] at f'; cases f'
    · rename_i ds
      have f' : some (PyData.list ds, true) = some (r, own) := f
      cases f'
      obtain ⟨a, xs, rfl, ra, la, qa⟩ := b.lst
      exact call_list_of pins s σ H _ us Q I rv ⟨a, xs, rfl, .inl (sqL ra), fun p n => q.lst n la qa⟩
    · rename_i ds
      have f' : some (PyData.list ds, true) = some (r, own) := f
      cases f'
      obtain ⟨a, xs, rfl, ra, la, qa, _⟩ := b.tup
      exact call_list_of pins s σ H _ us Q I rv ⟨a, xs, rfl, .inr (sqT ra), fun p n => q.lst n la qa⟩
  | d :: _ :: _, rs, f => exact (by cases d <;> cases f)
theorem bi_tuple : CallR X (.type "tuple") (rBI (biD .tuple)) := by
  intro pins s σ H vs us Q I rv h
  obtain ⟨W, ds, r, own, wok, rs, f, q⟩ := h
  match ds, rs, f with
  | [d], rs, f =>
    obtain ⟨x, rfl, b⟩ := one_of rs
    cases d <;> first | (exfalso; cases f; done) | skip
    · rename_i ds
      have f' : some (PyData.tuple ds, false) = some (r, own) := f
      cases f'
      obtain ⟨a, xs, rfl, ra, la, qa⟩ := b.lst
      exact call_tuple_of pins s σ H _ us Q I rv ⟨a, xs, rfl, .inl ⟨sqL ra, fun p n => q.tup wok n la qa⟩⟩
    · rename_i ds
      have f' : some (PyData.tuple ds, false) = some (r, own) := f
      cases f'
      obtain ⟨a, xs, rfl, ra, la, qa, na⟩ := b.tup
      exact call_tuple_of pins s σ H _ us Q I rv ⟨a, xs, rfl, .inr ⟨sqT ra, q.old (.tup na la ra qa)⟩⟩
  | d :: _ :: _, rs, f => exact (by cases d <;> cases f)
theorem bi_repr (hS : ∃ o, X.K.lookup sysModules = some o) (hg : X.A.guards = some []) (hu : X.A.units + 66 < cLine) : CallR X (.builtin "repr") (rBI (biD .repr)) := by
  intro pins s σ H vs us Q I rv h
  obtain ⟨W, ds, r, own, wok, rs, f, q⟩ := h
  match ds, rs, f with
  | [d], rs, f =>
    obtain ⟨x, rfl, b⟩ := one_of rs
    have f' : (if reprOk d = true then some (PyData.str d.shown, false) else none) = some (r, own) := f
    by_cases ok : reprOk d = true
    · rw [if_pos ok] at f'
      cases f'
      unfold reprOk at ok
      simp only [Bool.and_eq_true, decide_eq_true_eq] at ok
      obtain ⟨⟨⟨h0, h1⟩, h3⟩, h4⟩ := ok
      obtain ⟨u, rfl, ru⟩ := vals1 rv
      obtain ⟨as, rd, nm⟩ := rb_reads hS I d x u h0 b ru
      have byRef : ∀ a, u = .ref a → wpAny (model X.prog X.w) X.A (call (.builtin "repr") [u]) (EP X pins σ Q) X.xe s := fun a e => by
        subst e
        exact repr_of_reads' rd h1 (fun _ => nm) hg (by omega) (fun _ _ e => e) (fun h' w tk hk => ⟨.str _, H, I.kept hk, ⟨w, rfl⟩, q.str⟩) h4
      cases d with
      | none => cases b.non; cases ru; exact PySem.P.repr_of_none ⟨.str _, H, I.tok _, ⟨_, rfl⟩, q.str⟩
      | bool i => cases b.bl; cases ru; exact PySem.P.repr_of_bool ⟨.str _, H, I.tok _, ⟨_, rfl⟩, q.str⟩
      | int i =>
        cases b.int
        obtain ⟨t, rfl⟩ := ru
        exact PySem.P.repr_of_int (by simpa [PyData.showable] using h1) ⟨.str _, H, I.tok _, ⟨_, rfl⟩, q.str⟩
      | str i =>
        cases b.str
        obtain ⟨t, rfl⟩ := ru
        exact PySem.P.repr_of_str ⟨.str _, H, I.tok _, ⟨_, rfl⟩, q.str⟩ h4
      | list ds =>
        obtain ⟨a, xs, rfl, _⟩ := b.lst
        exact byRef a ru
      | tuple ds =>
        obtain ⟨a, xs, rfl, _⟩ := b.tup
        exact byRef a ru
      | dict ds =>
        obtain ⟨a, rfl⟩ := b.ref
        exact byRef a ru
    · rw [if_neg ok] at f'; cases f'
  | d :: _ :: _, rs, f => exact (by cases d <;> cases f)
theorem insI_perm (x : Int) : ∀ l : List Int, (insI x l).Perm (x :: l)
  | [] => .refl _
  | y :: r => by
    unfold insI
    by_cases h : x ≤ y
    · rw [if_pos h]
    · rw [if_neg h]
      exact ((insI_perm x r).cons y).trans (.swap x y r)
theorem isort_perm : ∀ l : List Int, (isort l).Perm l
  | [] => .refl _
  | x :: r => (insI_perm x (isort r)).trans ((isort_perm r).cons x)
theorem insI_srt (x : Int) : ∀ l : List Int, l.Pairwise (· ≤ ·) → (insI x l).Pairwise (· ≤ ·)
  | [], _ => by simp [insI]
  | y :: r, h => by
    obtain ⟨h1, h2⟩ := List.pairwise_cons.mp h
    unfold insI
    by_cases q : x ≤ y
    · rw [if_pos q]
      refine List.pairwise_cons.mpr ⟨fun z hz => ?_, h⟩
      rcases List.mem_cons.mp hz with rfl | hz
      · exact q
      · exact Int.le_trans q (h1 z hz)
    · rw [if_neg q]
      refine List.pairwise_cons.mpr ⟨fun z hz => ?_, insI_srt x r h2⟩
      rcases List.mem_cons.mp ((insI_perm x r).mem_iff.mp hz) with rfl | hz
      · omega
      · exact h1 z hz
theorem isort_srt : ∀ l : List Int, (isort l).Pairwise (· ≤ ·)
  | [] => .nil
  | x :: r => insI_srt x _ (isort_srt r)
theorem isort_eq {l m : List Int} (h : m.Perm l) (s : m.Pairwise (· ≤ ·)) : m = isort l := by
  have p := h.trans (isort_perm l).symm
  first
    | exact List.Perm.eq_of_pairwise (fun x y _ _ h1 h2 => Int.le_antisymm h1 h2) s (isort_srt l) p
    | exact p.eq_of_sorted (fun x y _ _ h1 h2 => Int.le_antisymm h1 h2) s (isort_srt l)
theorem rpA_mapI {W : Addr → Prop} {H : Hp} : ∀ ns : List Int, RpA W H (ns.map V.int) (ns.map PyData.int)
  | [] => .nil
  | n :: r => .cons (.int n) (rpA_mapI r)
theorem insS_perm (x : Str) : ∀ l : List Str, (insS x l).Perm (x :: l)
  | [] => .refl _
  | y :: r => by
    unfold insS
    by_cases h : ltS y x = true
    · rw [if_pos h]
      exact ((insS_perm x r).cons y).trans (.swap x y r)
    · rw [if_neg h]
theorem ssort_perm : ∀ l : List Str, (ssort l).Perm l
  | [] => .refl _
  | x :: r => (insS_perm x (ssort r)).trans ((ssort_perm r).cons x)
abbrev leS (x y : Str) : Prop := ltS y x = false
theorem leS_iff {x y : Str} : leS x y ↔ x.cps.toList ≤ y.cps.toList := by
  unfold leS ltS
  rw [decide_eq_false_iff_not]
  exact Iff.rfl
theorem leS_trans {x y z : Str} (h1 : leS x y) (h2 : leS y z) : leS x z := leS_iff.mpr (List.le_trans (leS_iff.mp h1) (leS_iff.mp h2))
theorem leS_anti {x y : Str} (h1 : leS x y) (h2 : leS y x) : x = y := by
  have e := List.le_antisymm (leS_iff.mp h1) (leS_iff.mp h2)
  obtain ⟨a⟩ := x
  obtain ⟨b⟩ := y
  have : a = b := Array.ext' e
  rw [this]
theorem leS_total {x y : Str} (h : ¬ leS x y) : leS y x := leS_iff.mpr ((List.le_total x.cps.toList y.cps.toList).resolve_left fun z => h (leS_iff.mpr z))
theorem insS_srt (x : Str) : ∀ l : List Str, l.Pairwise leS → (insS x l).Pairwise leS
  | [], _ => by simp [insS]
  | y :: r, h => by
    obtain ⟨h1, h2⟩ := List.pairwise_cons.mp h
    unfold insS
    by_cases q : ltS y x = true
    · rw [if_pos q]
      refine List.pairwise_cons.mpr ⟨fun z hz => ?_, insS_srt x r h2⟩
      rcases List.mem_cons.mp ((insS_perm x r).mem_iff.mp hz) with rfl | hz
      · exact leS_total (by unfold leS; rw [q]; decide)
      · exact h1 z hz
    · rw [if_neg q]
      have q' : leS x y := by unfold leS; cases h : ltS y x <;> simp_all
      refine List.pairwise_cons.mpr ⟨fun z hz => ?_, h⟩
      rcases List.mem_cons.mp hz with rfl | hz
      · exact q'
      · exact leS_trans q' (h1 z hz)
theorem ssort_srt : ∀ l : List Str, (ssort l).Pairwise leS
  | [] => .nil
  | x :: r => insS_srt x _ (ssort_srt r)
theorem risS : ∀ (l : List Str) (p : Str), risingS p l = true → (p :: l).Pairwise leS
  | [], p, _ => by simp
  | x :: r, p, h => by
    have h' : (!ltCps x.cps.toList p.cps.toList && risingS x r) = true := h
    rw [Bool.and_eq_true, Bool.not_eq_true'] at h'
    have h1 : leS p x := by
      unfold leS ltS
      rw [← ltCps_eq]
      exact h'.1
    have ih := risS r x h'.2
    refine List.pairwise_cons.mpr ⟨fun z hz => ?_, ih⟩
    rcases List.mem_cons.mp hz with rfl | hz
    · exact h1
    · exact leS_trans h1 ((List.pairwise_cons.mp ih).1 z hz)
theorem srtS : ∀ (l : List Str), sortedS l = true → l.Pairwise leS
  | [], _ => .nil
  | x :: r, h => risS r x h
theorem ssort_eq {l m : List Str} (h : m.Perm l) (s : sortedS m = true) : m = ssort l := by
  have p := h.trans (ssort_perm l).symm
  exact List.Perm.eq_of_pairwise (fun x y _ _ h1 h2 => leS_anti h1 h2) (srtS m s) (ssort_srt l) p
theorem rpA_mapS {W : Addr → Prop} {H : Hp} : ∀ ns : List Str, RpA W H (ns.map V.str) (ns.map PyData.str)
  | [] => .nil
  | n :: r => .cons (.str n) (rpA_mapS r)
theorem allStrs_map {W : Addr → Prop} {H : Hp} : ∀ {xs : List D} {ys : List Str} {vs : List V}, allStrs xs = some ys → RpA W H vs xs → vs = ys.map V.str
  | [], ys, vs, h, r => by
    have h' : some [] = some ys := h
    cases h'
    cases r
    rfl
  | d :: xs, ys, vs, h, r => by
    cases d with
    | str z =>
      have h' : (allStrs xs).map (z :: ·) = some ys := h
      cases e : allStrs xs with
      | none => rw [e] at h'; cases h'
      | some zs =>
        rw [e] at h'
        have h2 : some (z :: zs) = some ys := h'
        cases h2
        cases r with
        | cons r1 r2 =>
          cases r1
          rw [allStrs_map e r2]
          rfl
    | _ => cases h
theorem bi_sorted (hc : X.calm = true) : CallR X (.builtin "sorted") (rBI (biD .sorted)) := by
  intro pins s σ H vs us Q I rv h
  obtain ⟨W, ds, r, own, wok, rs, f, q⟩ := h
  match ds, rs, f with
  | [d], rs, f =>
    obtain ⟨x, rfl, b⟩ := one_of rs
    cases d <;> first | (exfalso; cases f; done) | skip
    · rename_i z
      have f' : (if z.length < 64 then some (PyData.list ((ssort (chS z)).map .str), true) else none) = some (r, own) := f
      by_cases l64 : z.length < 64
      · rw [if_pos l64] at f'
        cases f'
        have ex := b.str
        subst ex
        refine cr_sortedTxt hc pins s σ H _ us Q I rv ⟨z, rfl, l64, fun ys p hp hs n => ?_⟩
        rw [ssort_eq hp hs]
        refine q.lst n ?_ (rpA_mapS _)
        rw [List.length_map, (ssort_perm _).length_eq]
        unfold chS
        rw [List.length_map]
        exact small64 l64
      · rw [if_neg l64] at f'; cases f'
    rename_i ds
    have f' : sortD ds = some (r, own) := f
    unfold sortD at f'
    cases h1 : asInts ds with
    | none =>
      rw [h1] at f'
      have f2 : ((allStrs ds).bind fun zs => if zs.length < 64 then some (PyData.list ((ssort zs).map .str), true) else none) = some (r, own) := f'
      cases h2 : allStrs ds with
      | none => rw [h2] at f2; cases f2
      | some zs =>
        rw [h2] at f2
        have f3 : (if zs.length < 64 then some (PyData.list ((ssort zs).map .str), true) else none) = some (r, own) := f2
        by_cases l64 : zs.length < 64
        · rw [if_pos l64] at f3
          cases f3
          obtain ⟨a, xs, rfl, ra, la, qa⟩ := b.lst
          have ex := allStrs_map h2 qa
          subst ex
          refine cr_sortedS pins s σ H _ us Q I rv ⟨a, zs, rfl, sqL ra, l64, fun ys p hp hs n => ?_⟩
          rw [ssort_eq hp hs]
          refine q.lst n ?_ (rpA_mapS _)
          rw [List.length_map, (ssort_perm zs).length_eq]
          exact small64 l64
        · rw [if_neg l64] at f3; cases f3
    | some ns =>
      rw [h1] at f'
      have f2 : some (PyData.list ((isort ns).map .int), true) = some (r, own) := f'
      cases f2
      obtain ⟨a, xs, rfl, ra, la, qa⟩ := b.lst
      have ex := qa.ints h1
      subst ex
      refine cr_sortedI pins s σ H _ us Q I rv ⟨a, ns, rfl, sqL ra, fun ns' p hp hs n => ?_⟩
      rw [isort_eq hp hs]
      refine q.lst n ?_ (rpA_mapI _)
      rw [List.length_map, (isort_perm ns).length_eq]
      rw [List.length_map] at la
      exact la
  | d :: _ :: _, rs, f => exact (by cases d <;> cases f)
theorem RpK.newm {W : Addr → Prop} {H : Hp} {p : Addr} {o : HO} (n : H p = none) {xs : List (Key × V)} {ds : List (D × D)} (r : RpK W H xs ds) : RpK (more W p) (upd H p o) xs ds :=
  RpK.mono (fun b x e _ => same_upd n b x e) (sub_more n) _ _ r
theorem New.dct {W : Addr → Prop} {H : Hp} {Q : VK} {p : Addr} {kvs : List (Key × V)} {ds : List (D × D)} (q : New W H (.dict ds) true Q) (n : H p = none) (l : kvs.length ≤ sizeLine) (r : RpK W H kvs ds) : Q (.ref p) (upd H p (.dK kvs)) :=
  q _ _ (same_upd n) ⟨p, rfl, n, kvs, upd_same, l, r.newm n⟩
theorem asPr_inv {W : Addr → Prop} {H : Hp} {v : V} {d : D} {p : Key × D × D} (h : asPr d = some p) (r : Rp W H v d) : ∃ a w, v = .ref a ∧ Rd H a (.tup [kV p.1, w]) ∧ p.2.1 = kD p.1 ∧ Rp W H w p.2.2 := by
  unfold asPr at h
  split at h
  · rename_i kd e
    cases hk : keyOf kd with
    | none => rw [hk] at h; cases h
    | some k =>
      rw [hk] at h
      cases h
      cases r with
      | tup n l ra qa =>
        cases qa with
        | cons r1 qa =>
          cases qa with
          | cons r2 qa =>
            cases qa
            obtain ⟨e1, e2⟩ := keyOf_kV (.inl r1) hk
            rw [e1] at ra
            exact ⟨_, _, rfl, ra, e2, r2⟩
  · cases h
theorem prs_of (X : Cx) {W : Addr → Prop} {H : Hp} : ∀ {ds : List D} {xs : List V} {ps : List (Key × D × D)}, asPrs ds = some ps → RpA W H xs ds →
    ∃ (as : List Addr) (kvs : List (Key × V)), xs = as.map V.ref ∧ Paired (fun p kv => SqT X.K H p [kV kv.1, kv.2]) as kvs ∧ kvs.length = xs.length ∧ ∀ acc accD, RpK W H acc accD → RpK W H (mergeK acc kvs) (mergeD accD ps)
  | [], xs, ps, h, r => by
    have h' : some [] = some ps := h
    cases h'
    cases r
    exact ⟨[], [], rfl, .nil, rfl, fun _ _ q => q⟩
  | d :: ds, xs, ps, h, r => by
    have h' : ((asPr d).bind fun p => (asPrs ds).map (p :: ·)) = some ps := h
    cases h1 : asPr d with
    | none => rw [h1] at h'; cases h'
    | some p =>
      rw [h1] at h'
      have h2 : ((asPrs ds).map (p :: ·)) = some ps := h'
      cases h3 : asPrs ds with
      | none => rw [h3] at h2; cases h2
      | some qs =>
        rw [h3] at h2
        have h4 : some (p :: qs) = some ps := h2
        cases h4
        cases r with
        | cons r1 r2 =>
          obtain ⟨a, w, rfl, ra, e, rw'⟩ := asPr_inv h1 r1
          obtain ⟨as, kvs, rfl, hp, hl, hm⟩ := prs_of X h3 r2
          refine ⟨a :: as, (p.1, w) :: kvs, rfl, .cons (sqT ra) hp, by rw [List.length_cons, List.length_cons, hl], fun acc accD q => ?_⟩
          have q2 := rpK_put (k := p.1) rw' q
          rw [← e] at q2
          exact hm _ _ q2
theorem bi_dict (hc : X.calm = true) : CallR X (.type "dict") (rBI (biD .dict)) := by
  intro pins s σ H vs us Q I rv h
  obtain ⟨W, ds, r, own, wok, rs, f, q⟩ := h
  match ds, rs, f with
  | [d], rs, f =>
    obtain ⟨x, rfl, b⟩ := one_of rs
    cases d <;> first | (exfalso; cases f; done) | skip
    rename_i ds
    have f' : ((asPrs ds).map fun ps => (PyData.dict (mergeD [] ps), true)) = some (r, own) := f
    cases h1 : asPrs ds with
    | none => rw [h1] at f'; cases f'
    | some ps =>
      rw [h1] at f'
      have f2 : some (PyData.dict (mergeD [] ps), true) = some (r, own) := f'
      cases f2
      obtain ⟨a, xs, rfl, ra, la, qa⟩ := b.lst
      obtain ⟨as, kvs, rfl, hp, hl, hm⟩ := prs_of X h1 qa
      refine call_dictP hc pins s σ H _ us Q I rv ⟨a, as, kvs, rfl, sqL ra, hp, fun p n => q.dct n ?_ (hm [] [] .nil)⟩
      refine Nat.le_trans (length_mergeK kvs []) ?_
      rw [List.length_nil, Nat.zero_add, hl]
      exact la
  | d :: _ :: _, rs, f => exact (by cases d <;> cases f)
theorem bi_str (hd : PySem.W.nsIn X.K cStatics digK = some none ∧ PySem.W.nsOkIn X.K cStatics = true) : CallR X (.type "str") (rBI (biD .str)) := by
  intro pins s σ H vs us Q I rv h
  obtain ⟨W, ds, r, own, wok, rs, f, q⟩ := h
  match ds, rs, f with
  | [d], rs, f =>
    obtain ⟨x, rfl, b⟩ := one_of rs
    cases d <;> first | (exfalso; cases f; done) | skip
    rename_i i
    have f' : (if i.natAbs.log2 < 12000 then some (PyData.str (toString i), false) else none) = some (r, own) := f
    by_cases z : i.natAbs.log2 < 12000
    · rw [if_pos z] at f'
      cases f'
      have ex := b.int
      subst ex
      obtain ⟨u, rfl, ru⟩ := vals1 rv
      obtain ⟨t, rfl⟩ := ru
      have hn : s.heap.Ns cStatics (s.heap.nsMap cStatics) := .of_isNs (PySem.W.isNs_of_in I.kIn hd.2)
      exact str_big z hn (PySem.W.nsMap_none_of_in I.kIn hd.2 hd.1) ⟨.str _, H, I.tok _, ⟨_, rfl⟩, q.str⟩
    · rw [if_neg z] at f'; cases f'
  | d :: _ :: _, rs, f => exact (by cases d <;> cases f)
theorem bi_any_of (b : BI) (hd : PySem.W.nsIn X.K cStatics digK = some none ∧ PySem.W.nsOkIn X.K cStatics = true) (hS : ∃ o, X.K.lookup sysModules = some o) (hc : X.calm = true) (hg : X.A.guards = some []) (hu : X.A.units + 66 < cLine) : CallR X b.val (rBI (biD b)) := by
  cases b
  · exact bi_len
  · exact bi_int
  · exact bi_max hc
  · exact bi_min hc
  · exact bi_sum hc
  · exact bi_repr hS hg hu
  · exact bi_all hc
  · exact bi_any hc
  · exact bi_list hc
  · exact bi_tuple
  · exact bi_abs
  · exact bi_str hd
  · exact bi_sorted hc
  · exact bi_dict hc

/-! ### isinstance -/
def rIsD (t : Ty) : List V → Hp → VK → Prop := fun xs H Q => ∃ (W : Addr → Prop) (d : D) (x : V), xs = [x, .ty t.name] ∧ RB W H x d ∧ tyd d = true ∧ Q (.bl (isTy t d)) H
inductive K7 where
  | non | bl | int | str | lst | tup | dct
def K7.name : K7 → String
  | .non => "NoneType" | .bl => "bool" | .int => "int" | .str => "str" | .lst => "list" | .tup => "tuple" | .dct => "dict"
def k7 : D → K7
  | .none => .non | .bool _ => .bl | .int _ => .int | .str _ => .str | .list _ => .lst | .tuple _ => .tup | .dict _ => .dct
def isTy7 : Ty → K7 → Bool
  | .int, .int => true
  | .int, .bl => true
  | .bool, .bl => true
  | .str, .str => true
  | .list, .lst => true
  | .tuple, .tup => true
  | .dict, .dct => true
  | _, _ => false
theorem isTy7_eq (t : Ty) (d : D) : isTy7 t (k7 d) = isTy t d := by cases t <;> cases d <;> rfl
theorem kit7 (t : Ty) (k : K7) : kitB k.name t.name = some (isTy7 t k) := by cases t <;> cases k <;> decide +kernel
theorem tyx_of {W : Addr → Prop} {H : Hp} {x : V} : ∀ {d : D}, tyd d = true → RB W H x d → TyX X.K H x (.type (k7 d).name)
  | .none, _, b => by cases b.non; exact .base .non
  | .bool i, _, b => by cases b.bl; exact .base (.bl i)
  | .int i, _, b => by cases b.int; exact .base (.int i)
  | .str i, _, b => by cases b.str; exact .base (.str i)
  | .list ds, _, b => by
    obtain ⟨a, xs, rfl, ra, _⟩ := b.lst
    rcases ra with ra | ⟨o, ra⟩
    · exact .base (.lst ra)
    · exact .base (.frz ra)
  | .tuple ds, _, b => by
    obtain ⟨a, xs, rfl, ra, _⟩ := b.tup
    rcases ra with ra | ⟨o, ra⟩
    · exact .base (.tup ra)
    · exact .fTuple ra
  | .dict ds, td, b => by
    obtain ⟨a, xs, rfl, ra, _⟩ := b.dct td
    rcases ra with ra | ⟨o, ra⟩
    · exact .base (.dK ra)
    · exact .fDict ra
theorem isi_D (t : Ty) : CallR X (.builtin "isinstance") (rIsD t) := by
  intro pins s σ H vs us Q I rv h
  obtain ⟨W, d, x, rfl, b, td, q⟩ := h
  exact call_isi pins s σ H _ us Q I rv ⟨x, .ty t.name, _, _, _, rfl, .ty _, tyx_of td b, kit_ty ((kit7 t (k7 d)).trans (by rw [isTy7_eq])), q⟩
/-- isinstance with a tuple of types -/
def rIsT (ts : List Ty) : List V → Hp → VK → Prop := fun xs H Q => ∃ (W : Addr → Prop) (d : D) (x : V) (tp : Addr), xs = [x, .ref tp] ∧ H tp = some (.tup (ts.map fun t => V.ty t.name)) ∧ RB W H x d ∧ tyd d = true ∧ Q (.bl (ts.any fun t => isTy t d)) H
theorem isT_cls : ∀ ts : List Ty, Paired ClsV (ts.map fun t => V.ty t.name) (ts.map fun t => Value.type t.name)
  | [] => .nil
  | t :: r => .cons (.ty t.name) (isT_cls r)
theorem isT_any {K : PySem.W.Frag} {d : D} : ∀ ts : List Ty, PySem.W.kitAny K (.type (k7 d).name) (ts.map fun t => Value.type t.name) = some (ts.any fun t => isTy t d)
  | [] => kitAny_nil
  | t :: r => by
    refine kitAny_cons (b := isTy t d) (kit_ty ((kit7 t (k7 d)).trans (by rw [isTy7_eq]))) (fun e => ?_) fun e => ?_
    · rw [List.any_cons, e, Bool.false_or]
      exact isT_any r
    · rw [List.any_cons, e, Bool.true_or]
theorem isT_D (ts : List Ty) : CallR X (.builtin "isinstance") (rIsT ts) := by
  intro pins s σ H vs us Q I rv h
  obtain ⟨W, d, x, tp, rfl, e, b, td, q⟩ := h
  exact call_isiT pins s σ H _ us Q I rv ⟨x, tp, _, _, _, _, rfl, e, isT_cls ts, tyx_of td b, isT_any ts, q⟩
end
end TL
/-! TL5: defs that are called where no repr runs (the guards are known). -/
namespace TL
open PySem PySem.Spec PyProof.Rows L2
variable [Plc]

/-- a def keeps its promise wherever no guard is open -/
structure FnG (P : Program) (w : World) (K : PySem.W.Frag) (mg : Str → Option Value) (base : Heap) (k : Nat) (f : Addr) (fd : FuncData) (ps : List Str) (sp : Sp) : Prop where
  len : ∀ vs H Q E, sp vs H Q E → vs.length = ps.length
  run : ∀ (A : Around) (outer : List Env) (s : Shared) (H : Hp) (args : Args) (us : List Value) (vs : List V) (Q : VK) (E : XK), A.guards = some [] → Room k A →
    Env0 P w K mg base A outer s H → BindsTo s fd args (ps.zip us) → Vals vs us → sp vs H Q E → codeAny (model P w) A (.call (.ref f) args) (CR (L2.CX P w) outer P w H s Q E) s
theorem FnG.mono {P : Program} {w : World} {K : PySem.W.Frag} {mg : Str → Option Value} {base : Heap} {j k : Nat} {f : Addr} {fd : FuncData} {ps : List Str} {sp : Sp} (F : FnG P w K mg base j f fd ps sp) (h : j ≤ k) : FnG P w K mg base k f fd ps sp :=
  { len := F.len, run := fun A outer s H args us vs Q E hg hr => F.run A outer s H args us vs Q E hg (hr.mono h) }

section
variable {X : Cx} {k : Nat} {f : Addr} {fd : FuncData} {ps : List Str} {sp : Sp} {T : Th}
/-- the callee runs; what it raises is wished for at the caller's places -/
theorem run_G {pins : List (Addr × Obj)} {σ : L2.St} {H : Hp} {s : Shared} {Q : VK} {args : Args} {us : List Value} {vs : List V} (F : FnG X.prog X.w X.K X.mg X.base k f fd ps sp) (hg : X.A.guards = some []) (hr : Room k X.A) (tk : Takes X T.wx)
    (I : Inv X pins σ H s) (hb : BindsTo s fd args (ps.zip us)) (r : Vals vs us) (h : sp vs H Q fun cls d H' => T.wx cls d σ H') : codeAny (model X.prog X.w) X.A (.call (.ref f) args) (fun r s' => match r with | .ok (.ret u) => EP X pins σ Q u s' | .ok _ => False | .error e => X.xe e s') s := by
  refine codeAny_mono (F.run X.A X.stack s H args us vs Q _ hg hr I.env0 hb r h) fun res s' q => ?_
  cases res with
  | error e => exact tk e s' (XE.of_call I (fun _ _ _ z => z) q)
  | ok fl =>
    cases fl with
    | ret u => exact I.after q
    | next => exact q.elim
    | brk => exact q.elim
    | cont => exact q.elim
theorem wp_call_of {A : Around} {M : Model} {v : Value} {us : List Value} {kw : List (Str × Value)} {Q E : Value → Shared → Prop} {s : Shared}
    (h : codeAny M A (.call v ⟨us, kw⟩) (fun r s' => match r with | .ok (.ret u) => Q u s' | .ok _ => False | .error e => E e s') s) : wpAny M A (call v us kw) Q E s := by
  refine wpAny_call (codeAny_mono h fun res s' q => ?_)
  cases res with
  | error e => exact q
  | ok fl =>
    cases fl with
    | ret u => exact q
    | next => exact q.elim
    | brk => exact q.elim
    | cont => exact q.elim
def tCallG (T : Th) (sp : Sp) (t : TA) : TE := fun σ H Q => t σ H fun vs H1 => sp vs H1 Q fun cls d H' => T.wx cls d σ H'
variable {x : Str} {p pos : Pos} {e : Expr} {es : List Expr} {t : TA}
theorem pe_callG (F : FnG X.prog X.w X.K X.mg X.base k f fd ps sp) (hg : X.A.guards = some []) (hr : Room k X.A) (gl : Gl X x) (hm : X.mg x = some (.ref f)) (hk : PySem.W.keepIn X.K (.ref f) = true) (hb : Binds X.K fd ps []) (tk : Takes X T.wx)
    (ha : PA X (e :: es) t) (hd : (x == ("__debug__" : Str)) = false) (he : starEach (e :: es) X.env = (false, eval e X.env) :: starEach es X.env) (hp : (backTo pos (starEach es X.env)).any (·.1) = false) : PE X (.Call (.Name x p) (e :: es) [] pos) (tCallG T sp t) := by
  constructor
  intro pins s σ H Q I h
  have body := thn (ha.run pos pins s σ H _ I h) (Q' := fun us s1 => X.K.In s1.heap ∧ wpAny (model X.prog X.w) X.A (call (.ref f) us) (EP X pins σ Q) X.xe s1) fun us s1 q => by
    obtain ⟨vs, H1, I1, r, q⟩ := q
    have hl : us.length = ps.length := by rw [← r.length]; exact F.len _ _ _ _ q
    have b := hb s1 us I1.kIn (by rw [List.append_nil]; exact hl)
    rw [List.append_nil] at b
    exact ⟨I1.kIn, wp_call_of (run_G F hg hr tk I1 b r q)⟩
  exact wpAny_Call_Name_kw (ld_glob I gl hm (PySem.W.callWith_K (h₀ := X.base) I.ok.mod.kin hk body he hp) hd)
theorem pe_callG0 (F : FnG X.prog X.w X.K X.mg X.base k f fd ps sp) (hg : X.A.guards = some []) (hr : Room k X.A) (gl : Gl X x) (hm : X.mg x = some (.ref f)) (hk : PySem.W.keepIn X.K (.ref f) = true) (hb : Binds X.K fd ps []) (tk : Takes X T.wx)
    (hd : (x == ("__debug__" : Str)) = false) : PE X (.Call (.Name x p) [] [] pos) (tCallG T sp tNil) := by
  constructor
  intro pins s σ H Q I h
  have hl : ([] : List V).length = ps.length := F.len _ _ _ _ h
  have b := hb s [] I.kIn (by simpa using hl)
  exact wpAny_Call_Name_kw (ld_glob I gl hm (PySem.W.callWith_K0 I.kIn hk (wp_call_of (run_G F hg hr tk I b .nil h))) hd)
end

/-- a def of the text, by its body -/
theorem fn_G {P : Program} {w : World} {K : PySem.W.Frag} {mg : Str → Option Value} {base : Heap} {k : Nat} {name qual : Str} {st : Stmt} {f : Addr} {fd : FuncData} {N ps : List Str} {sp : Sp} (F : Fun K name qual st f fd) (S : FnScope N ps (defScope st))
    (len : ∀ vs H Q E, sp vs H Q E → vs.length = ps.length)
    (body : ∀ (cdv : Value) (A : Around) (outer : List Env) (s : Shared) (H : Hp) (vs : List V) (Q : VK) (E : XK), A.guards = some [] → Room k (A.deeper (envOfC qual (defScope st) s.heap.objs.size f cdv)) → sp vs H Q E →
      ∃ t, PSs (cxOf (L2.CX P w) P w K mg base N qual (defScope st) f cdv A outer s H E) (defBody st) t ∧ t { nx := fun _ H' => Q .non H', rt := Q } (start N vs) H) : FnG P w K mg base (k + 1) f fd ps sp := by
  obtain ⟨oc, od, kV, doc, pm, an, cdv, ct, osl, rfl, lk, hcd⟩ := F.ex
  refine ⟨len, fun A outer s H args us vs Q E hg hr e0 hb r h => ?_⟩

  
  have hl := len _ _ _ _ h
  have kin : K.In s.heap := e0.mod.kin.keeps fun b o e => (e0.bs b o e).1
  have lim : s.heap.NoLimit := e0.mod.nolimit.keeps fun b o e => (e0.bs b o e).1
  have kinds : ∀ y ∈ ps.zip us, (defScope st).names.lookup y.1 = some .local ∨ ((defScope st).names.lookup y.1 = some .cell ∧ ((cellsFrom (s.heap.objs.size + 1) (defScope st).names []).lookup y.1).isSome = true) := by
    intro y hy
    obtain ⟨n, v⟩ := y
    exact (S.par n (List.of_mem_zip hy).1).imp id fun q => ⟨q, PySem.W.cellsFrom_some _ _ _ (.inl q)⟩
  refine codeAny_call_function hr.depth (kin _ _ lk) rfl S.co S.gen rfl (PySem.W.codeRec_of kin hcd) (hb _ _ _ _ (wpAny_newFunctionEnv_cells S.kind kinds fun env he s1 x => ?_))
  subst he
  obtain ⟨t, ht, ht2⟩ := body cdv A outer s H vs Q E hg (hr.deeper _) h
  have J := inv_start (E := E) (CX := L2.CX P w) S hr.hd e0 hl r x
  refine ⟨lim.keeps x.toInCall.keep, codeAny_func (wpAny_mono (ht.run [] s1 (start N vs) H _ J ht2) (fun fl s' hs => ?_) fun _ _ z => z)⟩
  cases fl with
  | next =>
    obtain ⟨σ', H', J', q⟩ := hs
    exact ⟨.non, H', J'.os, J'.bare, J'.base, J'.hok, rfl, q⟩
  | ret u =>
    obtain ⟨v, σ', H', J', rv, q⟩ := hs
    exact ⟨v, H', J'.os, J'.bare, J'.base, J'.hok, rv, q⟩
  | brk =>
    obtain ⟨_, _, _, q⟩ := hs
    exact q.elim
  | cont =>
    obtain ⟨_, _, _, q⟩ := hs
    exact q.elim
end TL
/-! TL6: the readings of the language's parts, from the rules of the layer below. -/
namespace TL
open PySem PySem.Spec PyProof.Rows L2
variable [Plc]

/-! ### two operands -/
theorem Stp.t0 {W W' : Addr → Prop} {σ σ' : L2.St} {g g' : Gv} {H H' : Hp} (s : Stp W σ g H W' σ' g' H') : ∀ b, H' b = none → H b = none := s.there
theorem finBin_ok {op : D → D → Option (D × Bool)} {a b : Op} {g : Gv} (h : finBin op a b g ≠ .bad) : ∃ d e r, a.res g = some d ∧ b.res g = some e ∧ op d e = some r ∧ finBin op a b g = .ok (.val r.1 r.2) g := by
  unfold finBin at h ⊢
  cases h1 : a.res g with
  | none => rw [h1] at h; exact absurd rfl h
  | some d =>
    rw [h1] at h
    cases h2 : b.res g with
    | none => rw [h2] at h; exact absurd rfl h
    | some e =>
      rw [h2] at h
      cases h3 : op d e with
      | none =>
        simp only [h3] at h
        exact absurd rfl h
      | some r => exact ⟨d, e, r, rfl, rfl, h3, by simp only [h3]⟩
theorem finUn_ok {op : D → Option (D × Bool)} {a : Op} {g : Gv} (h : finUn op a g ≠ .bad) : ∃ d r, a.res g = some d ∧ op d = some r ∧ finUn op a g = .ok (.val r.1 r.2) g := by
  unfold finUn at h ⊢
  cases h1 : a.res g with
  | none => rw [h1] at h; exact absurd rfl h
  | some d =>
    rw [h1] at h
    cases h3 : op d with
    | none =>
      simp only [h3] at h
      exact absurd rfl h
    | some r => exact ⟨d, r, rfl, h3, by simp only [h3]⟩
theorem Pst.nb {α : Type} {T : Th} {W : Addr → Prop} {σ : L2.St} {g : Gv} {H : Hp} {R : α → Gv → (Addr → Prop) → Hp → Prop} {r : Rs α} (h : Pst T W σ g H R r) : r ≠ .bad := fun z => by
  rw [z] at h
  exact h
theorem two_imp {T : Th} {fa fb : Gv → Rs Op} {op : D → D → Option (D × Bool)} {σ : L2.St} {H : Hp} {Q : VK} (h : tI T (fun g => (fa g).bind fun a g => (fb g).bind fun b g => finBin op a b g) σ H Q) :
    tOp (r2 op) (tI T fa) (tI T fb) σ H Q := by
  obtain ⟨W, g, G, h⟩ := h
  refine ⟨W, g, G, (Pst.bind G.wok h).mono fun a g1 W1 H1 _ s1 G1 h1 v r1 => ⟨W1, g1, G1, (Pst.bind G1.wok h1).mono fun b g2 W2 H2 _ s2 G2 h2 u r2' => ?_⟩⟩
  obtain ⟨d, e, r, e1, e2, e3, e4⟩ := finBin_ok h2.nb
  rw [e4] at h2
  exact ⟨W2, d, e, r.1, r.2, G2.wok, (r1.later G1 s2).rb G2 e1, (r2'.opd).rb G2 e2, e3, fin_new G2 (fun b z => s1.there b (s2.there b z)) h2⟩
/-- what a one-place operation is given -/
def r1 (op : D → Option (D × Bool)) (x : V) (H : Hp) (Q : VK) : Prop := ∃ (W : Addr → Prop) (d r : D) (own : Bool), (∀ b, W b → ∃ o, H b = some o) ∧ RB W H x d ∧ op d = some (r, own) ∧ New W H r own Q
/-- one operand -/
theorem one_imp {T : Th} {fa : Gv → Rs Op} {op : D → Option (D × Bool)} {σ : L2.St} {H : Hp} {Q : VK} (h : tI T (fun g => (fa g).bind fun a g => finUn op a g) σ H Q) : tI T fa σ H fun x H1 => r1 op x H1 Q := by
  obtain ⟨W, g, G, h⟩ := h
  refine ⟨W, g, G, (Pst.bind G.wok h).mono fun a g1 W1 H1 _ s1 G1 h1 v r1 => ?_⟩
  obtain ⟨d, r, e1, e3, e4⟩ := finUn_ok h1.nb
  rw [e4] at h1
  exact ⟨W1, d, r.1, r.2, G1.wok, (r1.opd).rb G1 e1, e3, fin_new G1 (fun b z => s1.there b z) h1⟩

/-! ### truth -/
theorem tru_rb {K : PySem.W.Frag} {W : Addr → Prop} {H : Hp} {v : V} : ∀ {d : D} {b : Bool}, RB W H v d → truth d = some b → TruV K v H b
  | .none, b, r, h => by
    cases r.non
    have h' : some false = some b := h
    cases h'; rfl
  | .bool c, b, r, h => by
    cases r.bl
    have h' : some c = some b := h
    cases h'; rfl
  | .int c, b, r, h => by
    cases r.int
    have h' : some (c != 0) = some b := h
    cases h'; rfl
  | .str c, b, r, h => by
    cases r.str
    have h' : (if c.length ≤ sizeLine then some (c.length != 0) else none) = some b := h
    by_cases z : c.length ≤ sizeLine
    · rw [if_pos z] at h'
      cases h'
      refine ⟨z, ?_⟩
      cases c.length <;> rfl
    · rw [if_neg z] at h'; cases h'
  | .list ds, b, r, h => by
    obtain ⟨a, xs, rfl, ra, _, qa⟩ := r.lst
    have h' : some (!ds.isEmpty) = some b := h
    cases h'
    refine .inl ⟨xs, .inl ra, ?_⟩
    cases qa <;> rfl
  | .tuple ds, b, r, h => by
    obtain ⟨a, xs, rfl, ra, _, qa, _⟩ := r.tup
    have h' : some (!ds.isEmpty) = some b := h
    cases h'
    refine .inr (.inl ⟨xs, .inl ra, ?_⟩)
    cases qa <;> rfl
  | .dict _, _, _, h => nomatch h
theorem tst_ok {a : Op} {g : Gv} {b : Bool} (h : tst a g = some b) : ∃ d, a.res g = some d ∧ truth d = some b := by
  unfold tst at h
  cases q : a.res g with
  | none => rw [q] at h; cases h
  | some d =>
    rw [q] at h
    exact ⟨d, rfl, h⟩
theorem tst_rb {K : PySem.W.Frag} {W : Addr → Prop} {H : Hp} {σ : L2.St} {g : Gv} {v : V} {a : Op} {b : Bool} (r : Opd W H σ v a) (G : EOk W H σ g) (h : tst a g = some b) : TruV K v H b := by
  obtain ⟨d, e1, e2⟩ := tst_ok h
  exact tru_rb (r.rb G e1) e2
/-- a test's reading -/
def tT (T : Th) (f : Gv → Rs Op) : TT := fun σ H Q => ∃ W g, EOk W H σ g ∧ Pst T W σ g H (fun o g' W' H' => ∃ b, tst o g' = some b ∧ Q b H') (f g)
theorem test_imp {K : PySem.W.Frag} {T : Th} {f : Gv → Rs Op} {σ : L2.St} {H : Hp} {Q : Bool → Hp → Prop} (h : tT T f σ H Q) : tI T f σ H fun x H1 => ∃ k, TruV K x H1 k ∧ Q k H1 := by
  obtain ⟨W, g, G, h⟩ := h
  refine ⟨W, g, G, h.mono fun a g1 W1 H1 _ s1 G1 h1 v r1 => ?_⟩
  obtain ⟨b, e, q⟩ := h1
  exact ⟨b, tst_rb r1.opd G1 e, q⟩
end TL
/-! TL7: lists of operands, displays, calls. -/
namespace TL
open PySem PySem.Spec PyProof.Rows L2
variable [Plc]

theorem Pst.bind0 {α β : Type} {T : Th} {W : Addr → Prop} {σ : L2.St} {g : Gv} {H : Hp} {R : β → Gv → (Addr → Prop) → Hp → Prop} {r : Rs α} {f : α → Gv → Rs β} (h : Pst T W σ g H R (r.bind f)) : Pst T W σ g H (fun a g1 _ _ => Pst T W σ g H R (f a g1)) r := by
  cases r with
  | bad => exact h
  | ex c fs g' => exact h
  | ok a g1 => exact fun _ _ _ _ => h

/-- a new object that stands at a -/
def ownA (v : V) (o : Op) (a : Addr) : Prop := (∃ d, o = .val d true) ∧ v = .ref a
inductive Pend (σ : L2.St) (g : Gv) (H : Hp) (W' : Addr → Prop) (g' : Gv) (H' : Hp) : List V → List Op → Prop
  | nil : Pend σ g H W' g' H' [] []
  | cons {v : V} {o : Op} {vs : List V} {os : List Op} : ORp σ g H W' g' H' v o → (∀ a, ownA v o a → ∀ p, p ∈ vs.zip os → ¬ ownA p.1 p.2 a) → Pend σ g H W' g' H' vs os → Pend σ g H W' g' H' (v :: vs) (o :: os)
def tIs (T : Th) (f : Gv → Rs (List Op)) : TA := fun σ H Q => ∃ W g, EOk W H σ g ∧ Pst T W σ g H (fun os g' W' H' => ∀ vs, Pend σ g H W' g' H' vs os → Q vs H') (f g)

section
variable {W W1 W2 : Addr → Prop} {σ : L2.St} {g g1 g2 : Gv} {H H1 H2 : Hp}
theorem ORp.fwd {v : V} {o : Op} (r : ORp σ g H W1 g1 H1 v o) (G1 : EOk W1 H1 σ g1) (s : Stp W1 σ g1 H1 W2 σ g2 H2) : ORp σ g H W2 g2 H2 v o := by
  cases o with
  | slot i => exact r
  | val d own =>
    cases own with
    | false => exact s.rp G1 r
    | true =>
      obtain ⟨a, e, w, q, n, f⟩ := r
      have nm : ¬ MutA σ g1 a := fun m => n m.held
      refine ⟨a, e, s.w a w nm, s.own G1 nm q, fun z => (s.held z).elim n fun z => ?_, f⟩
      obtain ⟨o, e⟩ := q.there
      rw [e] at z; cases z
theorem ORp.back {v : V} {o : Op} (s : Stp W σ g H W1 σ g1 H1) (r : ORp σ g1 H1 W2 g2 H2 v o) : ORp σ g H W2 g2 H2 v o := by
  cases o with
  | slot i => exact r
  | val d own =>
    cases own with
    | false => exact r
    | true =>
      obtain ⟨a, e, w, q, n, f⟩ := r
      exact ⟨a, e, w, q, n, f.elim (fun z => .inl (s.there a z)) fun z => (s.ob a z).elim .inr .inl⟩
theorem ORp.fresh {v : V} {o : Op} {a : Addr} (r : ORp σ g H W1 g1 H1 v o) (h : ownA v o a) : W1 a ∧ ¬ HeldA σ g1 a ∧ (H a = none ∨ MutA σ g a) ∧ ∃ x, H1 a = some x := by
  obtain ⟨⟨d, rfl⟩, rfl⟩ := h
  obtain ⟨b, e, w, q, n, f⟩ := r
  cases e
  exact ⟨w, n, f, q.there⟩
theorem Pend.back (s : Stp W σ g H W1 σ g1 H1) : ∀ {vs : List V} {os : List Op}, Pend σ g1 H1 W2 g2 H2 vs os → Pend σ g H W2 g2 H2 vs os
  | _, _, .nil => .nil
  | _, _, .cons r d t => .cons (r.back s) d (Pend.back s t)
theorem Pend.fresh {vs : List V} {os : List Op} (p : Pend σ g H W1 g1 H1 vs os) : ∀ {q : V × Op} {a : Addr}, q ∈ vs.zip os → ownA q.1 q.2 a → W1 a ∧ ¬ HeldA σ g1 a ∧ (H a = none ∨ MutA σ g a) ∧ ∃ x, H1 a = some x := by
  induction p with
  | nil => intro q a h _; cases h
  | cons r d t ih =>
    intro q a h o
    rcases List.mem_cons.mp (by simpa using h) with rfl | h
    · exact r.fresh o
    · exact ih h o
end

theorem args_nil {T : Th} {σ : L2.St} {H : Hp} {Q : List V → Hp → Prop} (h : tIs T (fun g => .ok [] g) σ H Q) : tNil σ H Q := by
  obtain ⟨W, g, G, h⟩ := h
  exact h H W Stp.refl G [] .nil
theorem args_cons {T : Th} {fa : Gv → Rs Op} {fr : Gv → Rs (List Op)} {σ : L2.St} {H : Hp} {Q : List V → Hp → Prop} (h : tIs T (fun g => (fa g).bind fun a g => (fr g).bind fun as g => .ok (a :: as) g) σ H Q) :
    tCons (tI T fa) (tIs T fr) σ H Q := by
  obtain ⟨W, g, G, h⟩ := h
  refine ⟨W, g, G, (Pst.bind G.wok h).mono fun a g1 W1 H1 _ s1 G1 h1 v r1 => ⟨W1, g1, G1, (Pst.bind G1.wok h1).mono fun as g2 W2 H2 _ s2 G2 h2 vs p2 => ?_⟩⟩
  refine h2 H2 W2 Stp.refl G2 (v :: vs) (.cons (r1.fwd G1 s2) (fun b ob q hq oq => ?_) (p2.back s1))
  obtain ⟨_, n, _, x, hx⟩ := r1.fresh ob
  obtain ⟨_, _, f, _⟩ := p2.fresh hq oq
  rcases f with z | z
  · rw [hx] at z; cases z
  · exact n z.held

/-! ### giving up new objects -/
/-- the addresses P are shared from now on -/
def less (W : Addr → Prop) (P : Addr → Prop) : Addr → Prop := fun b => W b ∧ ¬ P b
section
variable {W W1 : Addr → Prop} {σ : L2.St} {g g1 : Gv} {H H1 : Hp} {P : Addr → Prop}
theorem sub_less : Sub W1 H1 (less W1 P) := fun _ z => .inl z.1
theorem eok_less (G : EOk W1 H1 σ g1) (h : ∀ a, P a → ¬ HeldA σ g1 a) : EOk (less W1 P) H1 σ g1 where
  len := G.len
  wok := fun b z => G.wok b z.1
  sh := fun i d e => let ⟨v, e', r⟩ := G.sh i d e; ⟨v, e', Rp.mono (fun _ _ e _ => e) sub_less d v r⟩
  hd := fun i s d e hd => by
    obtain ⟨a, q, w, o⟩ := G.hd i s d e hd
    exact ⟨a, q, ⟨w, fun z => h a z ⟨i, s, d, e, hd, q⟩⟩, Own.mono (fun _ _ e _ => e) sub_less (fun _ e => e) o⟩
  inj := G.inj
theorem stp_less (G : EOk W H σ g) (s : Stp W σ g H W1 σ g1 H1) (h : ∀ a, P a → H a = none ∨ MutA σ g a) : Stp W σ g H (less W1 P) σ g1 H1 where
  keep := s.keep
  there := s.there
  w := fun b w n => ⟨s.w b w n, fun z => (h b z).elim (fun z => by obtain ⟨o, e⟩ := G.wok b w; rw [e] at z; cases z) n⟩
  wb := fun b z => s.wb b z.1
  ob := s.ob
  lf := s.lf
  lb := s.lb
  fx := s.fx
theorem fin_new2 {T : Th} {d : D} {own : Bool} {Q : VK} (G : EOk W H σ g) (G1 : EOk W1 H1 σ g1) (s : Stp W σ g H W1 σ g1 H1) (h : Pst T W σ g H (fun o g' W' H' => ∀ v, ORp σ g H W' g' H' v o → Q v H') (.ok (.val d own) g1)) : New W1 H1 d own Q := by
  intro v H' k r
  cases own with
  | false => exact h H' W1 (s.trans G.wok (stp_new k)) (eok_new G1 k) v r
  | true =>
    obtain ⟨a, e, n, o⟩ := r
    have nW : ¬ W1 a := fun w => by
      obtain ⟨_, q⟩ := G1.wok a w
      rw [n] at q; cases q
    exact h H' (more W1 a) (s.trans G.wok (stp_more k n)) (eok_more G1 k n o.there) v ⟨a, e, .inr rfl, o, fun z => nW (G1.mutW z), .inl (s.there a n)⟩
/-- the new objects among operands -/
def ownsOf (vs : List V) (os : List Op) (a : Addr) : Prop := ∃ p, p ∈ vs.zip os ∧ ownA p.1 p.2 a
theorem Pend.vals {vs : List V} {os : List Op} (p : Pend σ g H W1 g1 H1 vs os) {P : Addr → Prop} (hP : ∀ a, ownsOf vs os a → P a) : ∀ {ds : List D}, TL.vals os = some ds → RpA (less W1 P) H1 vs ds := by
  induction p with
  | nil =>
    intro ds h
    have h' : some [] = some ds := h
    cases h'
    exact .nil
  | @cons v o vs os r d t ih =>
    intro ds h
    cases o with
    | slot i => cases h
    | val e own =>
      have h' : (match TL.vals os with | none => none | some ds => some (e :: ds)) = some ds := h
      cases q : TL.vals os with
      | none => rw [q] at h'; cases h'
      | some ds' =>
        rw [q] at h'
        have h2 : some (e :: ds') = some ds := h'
        cases h2
        refine .cons ?_ (ih (fun a ⟨p, hp, o⟩ => hP a ⟨p, by simp [hp], o⟩) q)
        cases own with
        | false => exact Rp.mono (fun _ _ e _ => e) sub_less e v r
        | true =>
          obtain ⟨a, e', w, o, _⟩ := r
          subst e'
          have pa : P a := hP a ⟨(.ref a, .val e true), by simp, ⟨e, rfl⟩, rfl⟩
          exact Own.give (fun z => z.2 pa) (Own.mono (fun _ _ e _ => e) sub_less (fun _ e => e) o)
theorem Pend.len {vs : List V} {os : List Op} (p : Pend σ g H W1 g1 H1 vs os) : vs.length = os.length := by
  induction p with
  | nil => rfl
  | cons _ _ _ ih => rw [List.length_cons, List.length_cons, ih]
end
theorem vals_len : ∀ {os : List Op} {ds : List D}, vals os = some ds → os.length = ds.length
  | [], ds, h => by
    have h' : some [] = some ds := h
    cases h'; rfl
  | .slot _ :: _, ds, h => by cases h
  | .val e own :: os, ds, h => by
    have h' : (match vals os with | none => none | some ds => some (e :: ds)) = some ds := h
    cases q : vals os with
    | none => rw [q] at h'; cases h'
    | some ds' =>
      rw [q] at h'
      have h2 : some (e :: ds') = some ds := h'
      cases h2
      rw [List.length_cons, List.length_cons, vals_len q]

/-- (a, b, ..), [a, b, ..] -/
theorem finTup_ok {os : List Op} {g : Gv} (h : finTup os g ≠ .bad) : ∃ ds, vals os = some ds ∧ ds.length ≤ sizeLine ∧ finTup os g = .ok (.val (.tuple ds) false) g := by
  unfold finTup at h ⊢
  cases q : vals os with
  | none => rw [q] at h; exact absurd rfl h
  | some ds =>
    rw [q] at h
    by_cases l : ds.length ≤ sizeLine
    · exact ⟨ds, rfl, l, by simp only [if_pos l]⟩
    · simp only [if_neg l] at h
      exact absurd rfl h
theorem finLst_ok {os : List Op} {g : Gv} (h : finLst os g ≠ .bad) : ∃ ds, vals os = some ds ∧ ds.length ≤ sizeLine ∧ finLst os g = .ok (.val (.list ds) true) g := by
  unfold finLst at h ⊢
  cases q : vals os with
  | none => rw [q] at h; exact absurd rfl h
  | some ds =>
    rw [q] at h
    by_cases l : ds.length ≤ sizeLine
    · exact ⟨ds, rfl, l, by simp only [if_pos l]⟩
    · simp only [if_neg l] at h
      exact absurd rfl h
/-- operands that are kept: what was new among them is shared from now on -/
theorem kept_ops {W W1 : Addr → Prop} {σ : L2.St} {g g1 : Gv} {H H1 : Hp} (G : EOk W H σ g) (G1 : EOk W1 H1 σ g1) (s1 : Stp W σ g H W1 σ g1 H1) {vs : List V} {os : List Op} (p : Pend σ g H W1 g1 H1 vs os) :
    EOk (less W1 (ownsOf vs os)) H1 σ g1 ∧ Stp W σ g H (less W1 (ownsOf vs os)) σ g1 H1 :=
  ⟨eok_less G1 fun a ⟨_, hq, o⟩ => (p.fresh hq o).2.1, stp_less G s1 fun a ⟨_, hq, o⟩ => (p.fresh hq o).2.2.1⟩
theorem tup_imp {T : Th} {f : Gv → Rs (List Op)} {σ : L2.St} {H : Hp} {Q : VK} (h : tI T (fun g => (f g).bind fun os g => finTup os g) σ H Q) : tTup (tIs T f) σ H Q := by
  obtain ⟨W, g, G, h⟩ := h
  refine ⟨W, g, G, (Pst.bind0 h).mono fun os g1 W1 H1 _ s1 G1 h1 vs p => ?_⟩
  obtain ⟨ds, q, l, e⟩ := finTup_ok h1.nb
  rw [e] at h1
  have l' : vs.length ≤ sizeLine := by rw [p.len, vals_len q]; exact l
  obtain ⟨G2, s2⟩ := kept_ops G G1 s1 p
  exact ⟨l', fun a n => (fin_new2 G G2 s2 h1).tup G2.wok n l' (p.vals (fun _ z => z) q)⟩
theorem lst_imp {T : Th} {f : Gv → Rs (List Op)} {σ : L2.St} {H : Hp} {Q : VK} (h : tI T (fun g => (f g).bind fun os g => finLst os g) σ H Q) : tLst (tIs T f) σ H Q := by
  obtain ⟨W, g, G, h⟩ := h
  refine ⟨W, g, G, (Pst.bind0 h).mono fun os g1 W1 H1 _ s1 G1 h1 vs p => ?_⟩
  obtain ⟨ds, q, l, e⟩ := finLst_ok h1.nb
  rw [e] at h1
  have l' : vs.length ≤ sizeLine := by rw [p.len, vals_len q]; exact l
  obtain ⟨G2, s2⟩ := kept_ops G G1 s1 p
  exact ⟨l', fun a n => (fin_new2 G G2 s2 h1).lst n l' (p.vals (fun _ z => z) q)⟩

/-- a built-in function called -/
theorem Pend.rbs {W1 : Addr → Prop} {σ : L2.St} {g g1 : Gv} {H H1 : Hp} (G1 : EOk W1 H1 σ g1) {vs : List V} {os : List Op} (p : Pend σ g H W1 g1 H1 vs os) : ∀ {ds : List D}, resAll g1 os = some ds → RBs W1 H1 vs ds := by
  induction p with
  | nil =>
    intro ds h
    have h' : some [] = some ds := h
    cases h'
    exact .nil
  | @cons v o vs os r d t ih =>
    intro ds h
    have h' : (match o.res g1 with | none => none | some d => match resAll g1 os with | none => none | some ds => some (d :: ds)) = some ds := h
    cases q : o.res g1 with
    | none => rw [q] at h'; cases h'
    | some e =>
      rw [q] at h'
      cases q2 : resAll g1 os with
      | none => rw [q2] at h'; cases h'
      | some es =>
        rw [q2] at h'
        have h2 : some (e :: es) = some ds := h'
        cases h2
        exact .cons (r.opd.rb G1 q) (ih q2)
theorem finBi_ok {op : List D → Option (D × Bool)} {os : List Op} {g : Gv} (h : finBi op os g ≠ .bad) : ∃ ds r, resAll g os = some ds ∧ op ds = some r ∧ finBi op os g = .ok (.val r.1 r.2) g := by
  unfold finBi at h ⊢
  cases q : resAll g os with
  | none => rw [q] at h; exact absurd rfl h
  | some ds =>
    rw [q] at h
    cases q2 : op ds with
    | none =>
      simp only [q2] at h
      exact absurd rfl h
    | some r => exact ⟨ds, r, rfl, q2, by simp only [q2]⟩
theorem bi_imp {T : Th} {f : Gv → Rs (List Op)} {op : List D → Option (D × Bool)} {σ : L2.St} {H : Hp} {Q : VK} (h : tI T (fun g => (f g).bind fun os g => finBi op os g) σ H Q) : tCB (rBI op) (tIs T f) σ H Q := by
  obtain ⟨W, g, G, h⟩ := h
  refine ⟨W, g, G, (Pst.bind0 h).mono fun os g1 W1 H1 _ s1 G1 h1 vs p => ?_⟩
  obtain ⟨ds, r, q1, q2, e⟩ := finBi_ok h1.nb
  rw [e] at h1
  exact ⟨W1, ds, r.1, r.2, G1.wok, p.rbs G1 q1, q2, fin_new2 G G1 s1 h1⟩
end TL
/-! TL8: names, calls of defs, writing into lists. -/
namespace TL
open PySem PySem.Spec PyProof.Rows L2
variable [Plc]

theorem get_set {g : Gv} {i j : Nat} {s t : Slot} (h : (g.set i s)[j]? = some t) : (i = j ∧ t = s) ∨ (i ≠ j ∧ g[j]? = some t) := by
  by_cases e : i = j
  · subst e
    rw [List.getElem?_set] at h
    simp only [if_pos rfl] at h
    by_cases l : i < g.length
    · rw [if_pos l] at h; cases h; exact .inl ⟨rfl, rfl⟩
    · rw [if_neg l] at h; cases h
  · rw [List.getElem?_set_ne e] at h
    exact .inr ⟨e, h⟩
theorem set_get {g : Gv} {i : Nat} {s t : Slot} (h : g[i]? = some t) : (g.set i s)[i]? = some s := by
  have l := (List.getElem?_eq_some_iff.mp h).1
  rw [List.getElem?_set_self l]
theorem ad_inj {σ : L2.St} {i : Nat} {a b : Addr} (h : ad σ i a) (h' : ad σ i b) : a = b := by
  have e : (some (some (V.ref a)) : Option (Option V)) = some (some (.ref b)) := h.symm.trans h'
  cases e
  rfl

section
variable {W : Addr → Prop} {σ : L2.St} {g : Gv} {H : Hp} {i : Nat} {d : D}
/-- a list of one's own is let go: shared from now on, or moved away -/
theorem let_go (G : EOk W H σ g) (e : g[i]? = some (.ow d)) {a : Addr} (ha : ad σ i a) {s : Slot} (hs : s = .sh d ∨ s = .un) {P : Addr → Prop} (hP : ∀ b, P b → b = a) (hp : s = .sh d → P a) :
    EOk (less W P) H σ (g.set i s) ∧ Stp W σ g H (less W P) σ (g.set i s) H := by
  have hm : s.mut = false := by rcases hs with rfl | rfl <;> rfl
  have hh : s.hold = none := by rcases hs with rfl | rfl <;> rfl
  have other : ∀ (j : Nat) (t : Slot) (b : Addr), i ≠ j → g[j]? = some t → (∃ d, t.hold = some d) → ad σ j b → b ≠ a := fun j t b n ej hd hb z => by
    subst z
    exact G.inj i j _ t b n e ej rfl hd ha hb
  have hmu : MutA σ g a := ⟨i, _, e, rfl, ha⟩
  obtain ⟨a', ha', wa, oa⟩ := G.hd i _ d e rfl
  have ea := ad_inj ha' ha
  subst ea
  refine ⟨⟨by rw [List.length_set]; exact G.len, fun b z => G.wok b z.1, fun j d' ej => ?_, fun j t d' ej hd => ?_, fun j k t u b n ej ek m hd hb => ?_⟩, ⟨fun b x e _ => e, fun b e => e, fun b w n => ⟨w, fun z => n (hP b z ▸ hmu)⟩, fun b z => .inl z.1, fun b m => ?_, fun j d' ej => ?_, fun j d' ej => ?_, fun j d' ej => ?_⟩⟩
  · rcases get_set ej with ⟨rfl, es⟩ | ⟨n, ej⟩
    · subst es
      refine ⟨.ref a', ha, ?_⟩
      have hs' : d' = d := by
        rcases hs with z | z
        · cases z; rfl
        · cases z
      subst hs'
      exact Own.give (fun z => z.2 (hp rfl)) (Own.mono (fun _ _ e _ => e) sub_less (fun _ e => e) oa)
    · obtain ⟨v, ev, r⟩ := G.sh j d' ej
      exact ⟨v, ev, Rp.mono (fun _ _ e _ => e) sub_less d' v r⟩
  · rcases get_set ej with ⟨rfl, es⟩ | ⟨n, ej⟩
    · subst es
      rw [hh] at hd; cases hd
    · obtain ⟨b, hb, w, o⟩ := G.hd j t d' ej hd
      exact ⟨b, hb, ⟨w, fun z => other j t b n ej ⟨d', hd⟩ hb (hP b z)⟩, Own.mono (fun _ _ e _ => e) sub_less (fun _ e => e) o⟩
  · rcases get_set ej with ⟨rfl, es⟩ | ⟨n1, ej⟩
    · subst es
      rw [hm] at m; cases m
    · rcases get_set ek with ⟨rfl, es⟩ | ⟨n2, ek⟩
      · subst es
        obtain ⟨_, hd⟩ := hd
        rw [hh] at hd; cases hd
      · exact G.inj j k t u b n ej ek m hd hb
  · obtain ⟨j, t, ej, m, hb⟩ := m
    rcases get_set ej with ⟨rfl, es⟩ | ⟨n, ej⟩
    · subst es
      rw [hm] at m; cases m
    · exact .inl ⟨j, t, ej, m, hb⟩
  · by_cases n : i = j
    · subst n; rw [e] at ej; cases ej
    · exact ⟨by rw [List.getElem?_set_ne n]; exact ej, rfl⟩
  · rcases get_set ej with ⟨rfl, es⟩ | ⟨n, ej⟩
    · rcases hs with z | z <;> (rw [z] at es; cases es)
    · exact ej
  · by_cases n : i = j
    · subst n; rw [e] at ej; cases ej
    · exact ⟨⟨d', by rw [List.getElem?_set_ne n]; exact ej⟩, rfl⟩
end
theorem rdV_imp {T : Th} {i : Nat} {σ : L2.St} {H : Hp} {Q : VK} (h : tI T (rdV i) σ H Q) : tVar i σ H Q := by
  obtain ⟨W, g, G, h⟩ := h
  unfold rdV at h
  split at h
  · rename_i d e
    obtain ⟨v, ev, r⟩ := G.sh i d e
    exact ⟨v, ev, h H W Stp.refl G v r⟩
  · rename_i d e
    obtain ⟨a, ha, w, o⟩ := G.hd i _ d e rfl
    obtain ⟨G', s'⟩ := let_go G e ha (.inl rfl) (P := fun b => b = a) (fun _ z => z) (fun _ => rfl)
    refine ⟨.ref a, ha, h H _ s' G' (.ref a) ?_⟩
    exact Own.give (fun z => z.2 rfl) (Own.mono (fun _ _ e _ => e) sub_less (fun _ e => e) o)
  · exact h.elim
theorem rdM_imp {T : Th} {i : Nat} {σ : L2.St} {H : Hp} {Q : VK} (h : tI T (rdM i) σ H Q) : tVar i σ H Q := by
  obtain ⟨W, g, G, h⟩ := h
  unfold rdM at h
  split at h
  · rename_i d e
    obtain ⟨v, ev, r⟩ := G.sh i d e
    exact ⟨v, ev, h H W Stp.refl G v r⟩
  · rename_i d e
    obtain ⟨a, ha, w, o⟩ := G.hd i _ d e rfl
    obtain ⟨G', s'⟩ := let_go G e ha (.inr rfl) (P := fun _ => False) (fun _ z => z.elim) (fun z => nomatch z)
    refine ⟨.ref a, ha, h H _ s' G' (.ref a) ⟨a, rfl, ⟨w, fun z => z⟩, Own.mono (fun _ _ e _ => e) sub_less (fun _ e => e) o, ?_, .inr ⟨i, _, e, rfl, ha⟩⟩⟩
    rintro ⟨j, t, d', ej, hd, hj⟩
    rcases get_set ej with ⟨rfl, es⟩ | ⟨n, ej⟩
    · subst es; cases hd
    · exact G.inj i j _ t a n e ej rfl ⟨d', hd⟩ ha hj
  · exact h.elim
theorem look_at {W : Addr → Prop} {σ : L2.St} {g : Gv} {H : Hp} {i : Nat} {d : D} (G : EOk W H σ g) (h : look g i = some d) : ∃ v, σ[i]? = some (some v) := by
  unfold look at h
  cases q : g[i]? with
  | none => rw [q] at h; cases h
  | some s =>
    rw [q] at h
    cases s with
    | un => cases h
    | sh d' =>
      obtain ⟨v, ev, _⟩ := G.sh i d' q
      exact ⟨v, ev⟩
    | ow d' =>
      obtain ⟨a, ha, _⟩ := G.hd i _ d' q rfl
      exact ⟨_, ha⟩
    | lk d' =>
      obtain ⟨a, ha, _⟩ := G.hd i _ d' q rfl
      exact ⟨_, ha⟩
    | io d' =>
      obtain ⟨a, ha, _⟩ := G.hd i _ d' q rfl
      exact ⟨_, ha⟩
theorem rdB_imp {T : Th} {i : Nat} {σ : L2.St} {H : Hp} {Q : VK} (h : tI T (rdB i) σ H Q) : tVar i σ H Q := by
  obtain ⟨W, g, G, h⟩ := h
  unfold rdB at h
  split at h
  · rename_i d e
    obtain ⟨v, ev⟩ := look_at G e
    exact ⟨v, ev, h H W Stp.refl G v ev⟩
  · exact h.elim

/-! ### calls -/
def ioSet (as : Gv) (io : Option D) : Gv :=
  match io with
  | some d => as.set 0 (.io d)
  | none => as
/-- what a def of the language promises -/
def spF (xr : XR) (C : Calls) (i : Nat) : Sp := fun vs H Q E => ∃ (W : Addr → Prop) (as : Gv), EOk W H (vs.map some) as ∧
  match C i as with
  | .bad => False
  | .ex c fs io => ∀ cls d H' W', Stp W (vs.map some) as H W' (vs.map some) (ioSet as io) H' → EOk W' H' (vs.map some) (ioSet as io) → xr W' H' c fs cls d → E cls d H'
  | .ok d own io => ∀ v H' W', Stp W (vs.map some) as H W' (vs.map some) (ioSet as io) H' → EOk W' H' (vs.map some) (ioSet as io) → ORp (vs.map some) as H W' (ioSet as io) H' v (.val d own) → Q v H'
section
variable {W W1 : Addr → Prop} {σ : L2.St} {g g1 : Gv} {H H1 : Hp} {P : Addr → Prop}
theorem map_at {vs : List V} {i : Nat} {v : V} (h : vs[i]? = some v) : (vs.map some)[i]? = some (some v) := by rw [List.getElem?_map, h]; rfl
/-- the arguments that are read alone -/
theorem argL_read (G1 : EOk W1 H1 σ g1) {vs : List V} {os : List Op} (p : Pend σ g H W1 g1 H1 vs os) (hP : ∀ a, ownsOf vs os a → P a) : ∀ {as : List Slot}, argL g1 false os = some as →
    as.length = vs.length ∧ (∀ (i : Nat) (d : D), as[i]? = some (Slot.sh d) → ∃ v, vs[i]? = some v ∧ Rp (less W1 P) H1 v d) ∧
    (∀ (i : Nat) (s : Slot) (d : D), as[i]? = some s → s.hold = some d → s = .lk d ∧ ∃ (a : Addr) (j : Nat) (t : Slot), vs[i]? = some (.ref a) ∧ os[i]? = some (.slot j) ∧ g1[j]? = some t ∧ t.hold = some d ∧ ad σ j a) := by
  induction p with
  | nil =>
    intro as h
    have h' : some [] = some as := h
    cases h'
    exact ⟨rfl, fun i d e => by simp at e, fun i s d e => by simp at e⟩
  | @cons v o vs os r d t ih =>
    intro as h
    have h' : (match argOf g1 false o with | none => none | some a => match argL g1 false os with | none => none | some as => some (a :: as)) = some as := h
    cases q : argOf g1 false o with
    | none => rw [q] at h'; cases h'
    | some a =>
      rw [q] at h'
      cases q2 : argL g1 false os with
      | none => rw [q2] at h'; cases h'
      | some as' =>
        rw [q2] at h'
        have h2 : some (a :: as') = some as := h'
        cases h2
        obtain ⟨l, hs, hh⟩ := ih (fun a ⟨p, hp, o⟩ => hP a ⟨p, by simp [hp], o⟩) q2
        have head : (∀ e, a = Slot.sh e → Rp (less W1 P) H1 v e) ∧ (∀ e, a.hold = some e → a = .lk e ∧ ∃ (b : Addr) (j : Nat) (t : Slot), v = .ref b ∧ o = .slot j ∧ g1[j]? = some t ∧ t.hold = some e ∧ ad σ j b) := by
          cases o with
          | val e own =>
            have q' : some (Slot.sh e) = some a := q
            cases q'
            refine ⟨fun e' z => ?_, fun e' z => nomatch z⟩
            cases z
            cases own with
            | false => exact Rp.mono (fun _ _ e _ => e) sub_less e v r
            | true =>
              obtain ⟨b, eb, w, o, _⟩ := r
              subst eb
              have pb : P b := hP b ⟨(.ref b, .val e true), by simp, ⟨e, rfl⟩, rfl⟩
              exact Own.give (fun z => z.2 pb) (Own.mono (fun _ _ e _ => e) sub_less (fun _ e => e) o)
          | slot j =>
            have rj : σ[j]? = some (some v) := r
            have q' : (match g1[j]? with | some (.sh d) => some (.sh d) | some (.ow d) => some (.lk d) | some (.lk d) => some (.lk d) | some (.io d) => some (.lk d) | _ => none) = some a := q
            cases e : g1[j]? with
            | none => rw [e] at q'; cases q'
            | some t =>
              rw [e] at q'
              have lent : ∀ x, t.hold = some x → a = .lk x → (∀ e, a = Slot.sh e → Rp (less W1 P) H1 v e) ∧ (∀ e, a.hold = some e → a = .lk e ∧ ∃ (b : Addr) (j' : Nat) (t : Slot), v = .ref b ∧ Op.slot j = .slot j' ∧ g1[j']? = some t ∧ t.hold = some e ∧ ad σ j' b) := fun x hx ha => by
                subst ha
                refine ⟨(fun e z => nomatch z), fun e' z => ?_⟩
                cases z
                obtain ⟨b, hb, _⟩ := G1.hd j t x e hx
                have ev : (some (some v) : Option (Option V)) = some (some (.ref b)) := rj.symm.trans hb
                cases ev
                exact ⟨rfl, b, j, t, rfl, rfl, e, hx, hb⟩
              cases t with
              | un => cases q'
              | sh x =>
                have q2 : some (Slot.sh x) = some a := q'
                cases q2
                refine ⟨fun e' z => ?_, fun e' z => nomatch z⟩
                cases z
                obtain ⟨u, eu, ru⟩ := G1.sh j x e
                rw [rj] at eu
                cases eu
                exact Rp.mono (fun _ _ e _ => e) sub_less x v ru
              | ow x =>
                have q2 : some (Slot.lk x) = some a := q'
                cases q2
                exact lent x rfl rfl
              | lk x =>
                have q2 : some (Slot.lk x) = some a := q'
                cases q2
                exact lent x rfl rfl
              | io x =>
                have q2 : some (Slot.lk x) = some a := q'
                cases q2
                exact lent x rfl rfl
        refine ⟨by rw [List.length_cons, List.length_cons, l], fun i e ei => ?_, fun i s e ei hi => ?_⟩
        · cases i with
          | zero =>
            have ei' : some a = some (Slot.sh e) := ei
            exact ⟨v, rfl, head.1 e (Option.some.inj ei')⟩
          | succ i => exact hs i e ei
        · cases i with
          | zero =>
            have ei' : some a = some s := ei
            cases ei'
            obtain ⟨h1, b, j, t, h2, h3, h4⟩ := head.2 e hi
            exact ⟨h1, b, j, t, by rw [h2]; rfl, by rw [h3]; rfl, h4⟩
          | succ i => exact hh i s e ei hi
end
end TL
/-! TL9: a def of the language called; a list written. -/
namespace TL
open PySem PySem.Spec PyProof.Rows L2
variable [Plc]

theorem at_map {vs : List V} {i : Nat} {x : Option V} (h : (vs.map some)[i]? = some x) : ∃ v, vs[i]? = some v ∧ x = some v := by
  rw [List.getElem?_map] at h
  cases q : vs[i]? with
  | none => rw [q] at h; cases h
  | some v =>
    rw [q] at h
    have h' : some (some v) = some x := h
    cases h'
    exact ⟨v, rfl, rfl⟩
/-- what is given up at a call: every new object, but the one that the callee writes -/
def giveP (w : Bool) (vs : List V) (os : List Op) : Addr → Prop :=
  match w with
  | false => ownsOf vs os
  | true => ownsOf vs.tail os.tail
/-- how the arguments stand: as is the callee's frame; the written one (if w) is a place of ours or new -/
structure ArgsOk (W2 : Addr → Prop) (σ : L2.St) (g1 : Gv) (H1 : Hp) (w : Bool) (vs : List V) (os : List Op) (as : Gv) : Prop where
  eok : EOk W2 H1 (vs.map some) as
  nomut : w = false → ∀ (i : Nat) (s : Slot), as[i]? = some s → s.mut = false
  one : w = true → ∀ (i : Nat) (s : Slot), as[i]? = some s → s.mut = true → i = 0
  io : w = true → ∃ (d : D) (a : Addr), as[0]? = some (.io d) ∧ vs[0]? = some (.ref a) ∧
    ((∃ (i : Nat) (t : Slot), os[0]? = some (.slot i) ∧ g1[i]? = some t ∧ t.mut = true ∧ ad σ i a) ∨ (os[0]? = some (.val d true) ∧ ¬ HeldA σ g1 a))
section
variable {W W1 : Addr → Prop} {σ : L2.St} {g g1 : Gv} {H H1 : Hp}
theorem args_read {vs : List V} {os : List Op} (G1 : EOk W1 H1 σ g1) (p : Pend σ g H W1 g1 H1 vs os) {as : Gv} (h : argL g1 false os = some as) : ArgsOk (less W1 (ownsOf vs os)) σ g1 H1 false vs os as := by
  obtain ⟨l, hs, hh⟩ := argL_read G1 p (P := ownsOf vs os) (fun _ z => z) h
  have G2 := eok_less (P := ownsOf vs os) G1 fun a ⟨_, hq, o⟩ => (p.fresh hq o).2.1
  have nm : ∀ (i : Nat) (s : Slot), as[i]? = some s → s.mut = false := fun i s e => by
    cases q : s.mut with
    | false => rfl
    | true =>
      obtain ⟨d, hd⟩ := Slot.hold_of_mut q
      obtain ⟨rfl, _⟩ := hh i s d e hd
      cases q
  refine ⟨⟨by rw [List.length_map, l], G2.wok, fun i d e => ?_, fun i s d e hd => ?_, fun i j s t a n e1 e2 m hd ha hb => ?_⟩, fun _ => nm, (fun z => nomatch z), (fun z => nomatch z)⟩
  · obtain ⟨v, ev, r⟩ := hs i d e
    exact ⟨v, map_at ev, r⟩
  · obtain ⟨rfl, a, j, t, ea, _, ej, ht, hj⟩ := hh i s d e hd
    obtain ⟨b, hb, wb, ob⟩ := G2.hd j t d ej ht
    have eb := ad_inj hj hb
    subst eb
    exact ⟨a, map_at ea, wb, ob⟩
  · rw [nm i s e1] at m
    cases m
theorem any_slot {i : Nat} : ∀ {os : List Op} {j k : Nat}, os.any (isSlot i) = false → os[k]? = some (.slot j) → i ≠ j
  | [], j, k, _, h => by simp at h
  | o :: os, j, 0, h, e => by
    have e' : o = .slot j := by simpa using e
    subst e'
    simp only [List.any_cons, Bool.or_eq_false_iff] at h
    have h1 : (i == j) = false := h.1
    simpa using h1
  | o :: os, j, k + 1, h, e => by
    simp only [List.any_cons, Bool.or_eq_false_iff] at h
    exact any_slot h.2 (by simpa using e)
theorem args_write {vs : List V} {os : List Op} (G1 : EOk W1 H1 σ g1) (p : Pend σ g H W1 g1 H1 vs os) {as : Gv} (hne : os ≠ []) (hc : clash os = false) (h : argL g1 true os = some as) :
    ArgsOk (less W1 (ownsOf vs.tail os.tail)) σ g1 H1 true vs os as := by
  cases p with
  | nil => exact absurd rfl hne
  | @cons v o vr or r dist t =>
    show ArgsOk (less W1 (ownsOf vr or)) σ g1 H1 true (v :: vr) (o :: or) as
    have h' : (match argOf g1 true o with | none => none | some a => match argL g1 false or with | none => none | some as => some (a :: as)) = some as := h
    cases q : argOf g1 true o with
    | none => rw [q] at h'; cases h'
    | some a0 =>
      rw [q] at h'
      cases q2 : argL g1 false or with
      | none => rw [q2] at h'; cases h'
      | some ar =>
        rw [q2] at h'
        have h2 : some (a0 :: ar) = some as := h'
        cases h2
        obtain ⟨l, hs, hh⟩ := argL_read G1 t (P := ownsOf vr or) (fun _ z => z) q2
        have G2 := eok_less (P := ownsOf vr or) G1 fun a ⟨_, hq, o⟩ => (t.fresh hq o).2.1
        have nm : ∀ (i : Nat) (s : Slot), ar[i]? = some s → s.mut = false := fun i s e => by
          cases q : s.mut with
          | false => rfl
          | true =>
            obtain ⟨d, hd⟩ := Slot.hold_of_mut q
            obtain ⟨rfl, _⟩ := hh i s d e hd
            cases q
        -- the written argument
        have head : ∃ (d : D) (a : Addr), a0 = .io d ∧ v = .ref a ∧ less W1 (ownsOf vr or) a ∧ Own (less W1 (ownsOf vr or)) H1 a d ∧
            ((∃ (i : Nat) (t : Slot), o = .slot i ∧ g1[i]? = some t ∧ t.mut = true ∧ ad σ i a) ∨ (o = .val d true ∧ ¬ HeldA σ g1 a)) := by
          cases o with
          | val e own =>
            cases own with
            | false => cases q
            | true =>
              have q' : some (Slot.io e) = some a0 := q
              cases q'
              obtain ⟨a, ea, w, ow, n, _⟩ := r
              subst ea
              refine ⟨e, a, rfl, rfl, ⟨w, fun z => ?_⟩, Own.mono (fun _ _ e _ => e) sub_less (fun _ e => e) ow, .inr ⟨rfl, n⟩⟩
              obtain ⟨pp, hp, op⟩ := z
              exact dist a ⟨⟨e, rfl⟩, rfl⟩ pp hp op
          | slot i =>
            have ri : σ[i]? = some (some v) := r
            have q' : (match g1[i]? with | some (.ow d) => some (.io d) | some (.io d) => some (.io d) | _ => none) = some a0 := q
            cases e : g1[i]? with
            | none => rw [e] at q'; cases q'
            | some t =>
              rw [e] at q'
              have lent : ∀ x, t.hold = some x → t.mut = true → a0 = .io x → ∃ (d : D) (a : Addr), a0 = .io d ∧ v = .ref a ∧ less W1 (ownsOf vr or) a ∧ Own (less W1 (ownsOf vr or)) H1 a d ∧
                  ((∃ (j : Nat) (t : Slot), Op.slot i = .slot j ∧ g1[j]? = some t ∧ t.mut = true ∧ ad σ j a) ∨ (Op.slot i = .val d true ∧ ¬ HeldA σ g1 a)) := fun x hx hm ha => by
                obtain ⟨b, hb, w, ow⟩ := G2.hd i t x e hx
                have ev : (some (some v) : Option (Option V)) = some (some (.ref b)) := ri.symm.trans hb
                cases ev
                exact ⟨x, b, ha, rfl, w, ow, .inl ⟨i, t, rfl, e, hm, hb⟩⟩
              cases t with
              | un => cases q'
              | sh x => cases q'
              | lk x => cases q'
              | ow x =>
                have q2 : some (Slot.io x) = some a0 := q'
                cases q2
                exact lent x rfl rfl rfl
              | io x =>
                have q2 : some (Slot.io x) = some a0 := q'
                cases q2
                exact lent x rfl rfl rfl
        obtain ⟨d0, b0, rfl, rfl, w0, o0, src⟩ := head
        -- the others' addresses differ from the written one's
        have apart : ∀ (i : Nat) (s : Slot) (d : D) (b : Addr), ar[i]? = some s → s.hold = some d → vr[i]? = some (.ref b) → b ≠ b0 := fun i s d b e hd eb z => by
          subst z
          obtain ⟨_, a, j, t, ea, eo, ej, ht, hj⟩ := hh i s d e hd
          rw [eb] at ea
          cases ea
          rcases src with ⟨i0, t0, rfl, e0, m0, h0⟩ | ⟨_, n⟩
          · have hc' : or.any (isSlot i0) = false := hc
            exact G1.inj i0 j t0 t _ (any_slot hc' eo) e0 ej m0 ⟨d, ht⟩ h0 hj
          · exact n ⟨j, t, d, ej, ht, hj⟩
        have slotAt : ∀ (i : Nat) (s : Slot) (d : D), ar[i]? = some s → s.hold = some d → ∃ a, vr[i]? = some (.ref a) ∧ less W1 (ownsOf vr or) a ∧ Own (less W1 (ownsOf vr or)) H1 a d := fun i s d e hd => by
          obtain ⟨_, a, j, t, ea, _, ej, ht, hj⟩ := hh i s d e hd
          obtain ⟨b, hb, wb, ob⟩ := G2.hd j t d ej ht
          have eb := ad_inj hj hb
          subst eb
          exact ⟨a, ea, wb, ob⟩
        refine ⟨⟨by rw [List.length_map, List.length_cons, List.length_cons, l], G2.wok, fun i d e => ?_, fun i s d e hd => ?_, fun i j s t a n e1 e2 m hd ha hb => ?_⟩, (fun z => nomatch z), fun _ i s e m => ?_, fun _ => ⟨d0, b0, rfl, rfl, ?_⟩⟩
        · cases i with
          | zero =>
            have e' : some (Slot.io d0) = some (Slot.sh d) := e
            cases e'
          | succ i =>
            obtain ⟨v, ev, r⟩ := hs i d e
            exact ⟨v, map_at (vs := V.ref b0 :: vr) (i := i + 1) ev, r⟩
        · cases i with
          | zero =>
            have e' : some (Slot.io d0) = some s := e
            cases e'
            cases hd
            exact ⟨b0, rfl, w0, o0⟩
          | succ i =>
            obtain ⟨a, ea, w, o⟩ := slotAt i s d e hd
            exact ⟨a, map_at (vs := V.ref b0 :: vr) (i := i + 1) ea, w, o⟩
        · cases i with
          | succ i =>
            have e1' : ar[i]? = some s := e1
            rw [nm i s e1'] at m
            cases m
          | zero =>
            cases j with
            | zero => exact n rfl
            | succ j =>
              obtain ⟨dd, hd⟩ := hd
              have e2' : ar[j]? = some t := e2
              have hb' : (vr.map some)[j]? = some (some (.ref a)) := hb
              obtain ⟨v, ev, e3⟩ := at_map hb'
              cases e3
              have ha' : (some (some (V.ref b0)) : Option (Option V)) = some (some (.ref a)) := ha
              cases ha'
              exact apart j t dd _ e2' hd ev rfl
        · cases i with
          | zero => rfl
          | succ i =>
            have e' : ar[i]? = some s := e
            rw [nm i s e'] at m
            cases m
        · rcases src with ⟨i0, t0, rfl, e0, m0, h0⟩ | ⟨rfl, n⟩
          · exact .inl ⟨i0, t0, rfl, e0, m0, h0⟩
          · exact .inr ⟨rfl, n⟩

/-- the frame behind a call -/
theorem wrote_get {os : List Op} {io : Option D} {j : Nat} {s : Slot} (h : (wrote g1 os io)[j]? = some s) :
    ∃ t, g1[j]? = some t ∧ ((s = t) ∨ (t.mut = true ∧ s.mut = true ∧ os[0]? = some (.slot j) ∧ ∃ d, io = some d ∧ s.hold = some d)) ∧ (∀ d, t = .lk d ↔ s = .lk d) ∧ ((∃ d, t = .io d) ↔ ∃ d, s = .io d) ∧ t.mut = s.mut ∧ ((∃ d, t.hold = some d) ↔ ∃ d, s.hold = some d) := by
  unfold wrote at h
  split at h
  · rename_i i r d
    split at h
    · rename_i d' e
      rcases get_set h with ⟨rfl, rfl⟩ | ⟨n, h⟩
      · exact ⟨_, e, .inr ⟨rfl, rfl, rfl, d, rfl, rfl⟩, (fun x => ⟨(fun z => nomatch z), (fun z => nomatch z)⟩), ⟨(fun ⟨_, z⟩ => nomatch z), (fun ⟨_, z⟩ => nomatch z)⟩, rfl, ⟨fun _ => ⟨_, rfl⟩, fun _ => ⟨_, rfl⟩⟩⟩
      · exact ⟨s, h, .inl rfl, fun x => Iff.rfl, Iff.rfl, rfl, Iff.rfl⟩
    · rename_i d' e
      rcases get_set h with ⟨rfl, rfl⟩ | ⟨n, h⟩
      · exact ⟨_, e, .inr ⟨rfl, rfl, rfl, d, rfl, rfl⟩, (fun x => ⟨(fun z => nomatch z), (fun z => nomatch z)⟩), ⟨fun _ => ⟨_, rfl⟩, fun _ => ⟨_, rfl⟩⟩, rfl, ⟨fun _ => ⟨_, rfl⟩, fun _ => ⟨_, rfl⟩⟩⟩
      · exact ⟨s, h, .inl rfl, fun x => Iff.rfl, Iff.rfl, rfl, Iff.rfl⟩
    · exact ⟨s, h, .inl rfl, fun x => Iff.rfl, Iff.rfl, rfl, Iff.rfl⟩
  · exact ⟨s, h, .inl rfl, fun x => Iff.rfl, Iff.rfl, rfl, Iff.rfl⟩
theorem wrote_of {os : List Op} {io : Option D} {j : Nat} {t : Slot} (h : g1[j]? = some t) : ∃ s, (wrote g1 os io)[j]? = some s := by
  have l := (List.getElem?_eq_some_iff.mp h).1
  have e : (wrote g1 os io).length = g1.length := by
    unfold wrote
    split
    · split <;> simp
    · rfl
  exact ⟨_, List.getElem?_eq_getElem (by rw [e]; exact l)⟩
theorem wrote_len {os : List Op} {io : Option D} : (wrote g1 os io).length = g1.length := by
  unfold wrote
  split
  · split <;> simp
  · rfl
end
end TL
/-! TL10: behind a call. -/
namespace TL
open PySem PySem.Spec PyProof.Rows L2
variable [Plc]

section
variable {W W1 W2 W' : Addr → Prop} {σ : L2.St} {g g1 : Gv} {H H1 H' : Hp} {w : Bool} {vs : List V} {os : List Op} {as : Gv} {io : Option D}
theorem mut_src (A : ArgsOk W2 σ g1 H1 w vs os as) {b : Addr} (m : MutA (vs.map some) as b) : w = true ∧ vs[0]? = some (.ref b) ∧
    ((∃ (i : Nat) (t : Slot), os[0]? = some (.slot i) ∧ g1[i]? = some t ∧ t.mut = true ∧ ad σ i b) ∨ ((∃ d, os[0]? = some (.val d true)) ∧ ¬ HeldA σ g1 b)) := by
  obtain ⟨i, s, e, hm, hb⟩ := m
  cases w with
  | false =>
    rw [A.nomut rfl i s e] at hm
    cases hm
  | true =>
    have i0 := A.one rfl i s e hm
    subst i0
    obtain ⟨d, a, e0, ev, src⟩ := A.io rfl
    obtain ⟨v, ev', e3⟩ := at_map hb
    cases e3
    rw [ev] at ev'
    cases ev'
    refine ⟨rfl, ev, src.imp id fun ⟨z, n⟩ => ⟨⟨_, z⟩, n⟩⟩
theorem io_there (A : ArgsOk W2 σ g1 H1 w vs os as) (hw : w = true) {d' : D} : ∃ a, vs[0]? = some (.ref a) ∧ (as.set 0 (.io d'))[0]? = some (.io d') ∧ MutA (vs.map some) as a := by
  obtain ⟨d, a, e0, ev, src⟩ := A.io hw
  exact ⟨a, ev, set_get e0, 0, _, e0, rfl, map_at ev⟩
def wrS (d : D) : Slot → Slot
  | .ow _ => .ow d
  | .io _ => .io d
  | x => x
theorem wrote_at {g1 : Gv} {os : List Op} {j : Nat} {s : Slot} {dd : D} (et : g1[j]? = some s) (q : os[0]? = some (.slot j)) (hm : s.mut = true) : (wrote g1 os (some dd))[j]? = some (wrS dd s) := by
  cases os with
  | nil => simp at q
  | cons o r =>
    have q' : o = .slot j := by simpa using q
    subst q'
    unfold wrote
    simp only [et]
    cases s with
    | ow x => exact set_get et
    | io x => exact set_get et
    | un => cases hm
    | sh _ => cases hm
    | lk _ => cases hm
theorem call_back (A : ArgsOk W2 σ g1 H1 w vs os as) (G : EOk W H σ g) (G1 : EOk W2 H1 σ g1) (s1 : Stp W σ g H W2 σ g1 H1) (hf : ∀ a, MutA (vs.map some) as a → H a = none ∨ MutA σ g a) (fit : ioFit w io = true)
    (s2 : Stp W2 (vs.map some) as H1 W' (vs.map some) (ioSet as io) H') (G2 : EOk W' H' (vs.map some) (ioSet as io)) :
    EOk W' H' σ (wrote g1 os io) ∧ Stp W σ g H W' σ (wrote g1 os io) H' := by
  have kp := s2.kp A.eok
  -- a held place of ours that the callee does not write
  have stay : ∀ (j : Nat) (t : Slot) (d : D) (a : Addr), g1[j]? = some t → t.hold = some d → ad σ j a → os[0]? ≠ some (.slot j) → ¬ MutA (vs.map some) as a := fun j t d a ej hd hj ne m => by
    obtain ⟨_, _, src⟩ := mut_src A m
    rcases src with ⟨i, u, eo, ei, hm, hi⟩ | ⟨_, n⟩
    · by_cases q : i = j
      · subst q; exact ne eo
      · exact G1.inj i j u t a q ei ej hm ⟨d, hd⟩ hi hj
    · exact n ⟨j, t, d, ej, hd, hj⟩
  have wr : ∀ (j : Nat) (s t : Slot) (d : D), g1[j]? = some t → os[0]? = some (.slot j) → t.mut = true → io = some d → ∃ a, ad σ j a ∧ W' a ∧ Own W' H' a d := fun j s t d ej eo hm hd => by
    have hw : w = true := by
      cases w with
      | true => rfl
      | false =>
        rw [hd] at fit
        cases fit
    obtain ⟨d0, a, e0, ev, src⟩ := A.io hw
    have es : ioSet as io = as.set 0 (.io d) := by rw [hd]; rfl
    rw [es] at G2
    obtain ⟨b, hb, wb, ob⟩ := G2.hd 0 (.io d) d (set_get e0) rfl
    have hb' : (vs.map some)[0]? = some (some (.ref b)) := hb
    obtain ⟨v, ev', e3⟩ := at_map hb'
    cases e3
    rw [ev] at ev'
    cases ev'
    rcases src with ⟨i, u, eo', ei, hm', hi⟩ | ⟨eo', _⟩
    · rw [eo] at eo'
      cases eo'
      exact ⟨_, hi, wb, ob⟩
    · rw [eo] at eo'; cases eo'
  have kind : ∀ (j : Nat) (s : Slot) (d : D), (wrote g1 os io)[j]? = some s → s.hold = some d → ∃ (a : Addr) (t : Slot) (d' : D), ad σ j a ∧ W' a ∧ Own W' H' a d ∧ g1[j]? = some t ∧ t.mut = s.mut ∧ t.hold = some d' := fun j s d e hd => by
    obtain ⟨t, et, c, _, _, em, eh⟩ := wrote_get e
    obtain ⟨d', hd'⟩ := eh.mpr ⟨d, hd⟩
    rcases c with rfl | ⟨m1, m2, eo, dd, hio, hh⟩
    · obtain ⟨a, ha, wa, oa⟩ := G1.hd j s d et hd
      by_cases q : os[0]? = some (.slot j)
      · -- it is the written place, and it stands as it stood
        by_cases hm : s.mut = true
        · cases hi : io with
          | none =>
            refine ⟨a, s, d, ha, ?_, ?_, et, rfl, hd⟩
            · refine s2.w a wa fun m => ?_
              obtain ⟨hw, _⟩ := mut_src A m
              rw [hw, hi] at fit
              cases fit
            · refine s2.own A.eok (fun m => ?_) oa
              obtain ⟨hw, _⟩ := mut_src A m
              rw [hw, hi] at fit
              cases fit
          | some dd =>
            obtain ⟨a', ha', wa', oa'⟩ := wr j s s dd et q hm hi
            have e2 : (wrote g1 os (some dd))[j]? = some (wrS dd s) := wrote_at et q hm
            have e1 : (wrote g1 os (some dd))[j]? = some s := by rw [← hi]; exact e
            have e3 : s = wrS dd s := Option.some.inj (e1.symm.trans e2)
            have hdd : d = dd := by
              cases s with
              | ow x => cases e3; cases hd; rfl
              | io x => cases e3; cases hd; rfl
              | un => cases hm
              | sh _ => cases hm
              | lk _ => cases hm
            subst hdd
            exact ⟨a', s, d, ha', wa', oa', et, rfl, hd⟩
        · have nm : ¬ MutA (vs.map some) as a := fun m => by
            obtain ⟨_, _, src⟩ := mut_src A m
            rcases src with ⟨i, u, eo, ei, hm', hi⟩ | ⟨⟨_, eo⟩, _⟩
            · rw [q] at eo
              cases eo
              rw [et] at ei
              cases ei
              exact hm hm'
            · rw [q] at eo; cases eo
          exact ⟨a, s, d, ha, s2.w a wa nm, s2.own A.eok nm oa, et, rfl, hd⟩
      · have nm := stay j s d a et hd ha q
        exact ⟨a, s, d, ha, s2.w a wa nm, s2.own A.eok nm oa, et, rfl, hd⟩
    · have hdd : dd = d := Option.some.inj (hh.symm.trans hd)
      subst hdd
      obtain ⟨a', ha', wa', oa'⟩ := wr j s t dd et eo m1 hio
      exact ⟨a', t, d', ha', wa', oa', et, em, hd'⟩
  have mutEq : ∀ b, MutA σ (wrote g1 os io) b → MutA σ g1 b := fun b ⟨j, s, e, hm, hb⟩ => by
    obtain ⟨t, et, _, _, _, em, _⟩ := wrote_get e
    exact ⟨j, t, et, by rw [em]; exact hm, hb⟩
  refine ⟨⟨by rw [wrote_len]; exact G1.len, G2.wok, fun i d e => ?_, fun i s d e hd => ?_, fun i j s t a n e1 e2 m hd ha hb => ?_⟩, ⟨fun b x e n => ?_, fun b e => s1.there b (s2.there b e), fun b wb n => ?_, fun b z => (s2.wb b z).elim (fun z => s1.wb b z) fun z => .inr (s1.there b z), fun b m => s1.ob b (mutEq b m), fun i d e => ?_, fun i d e => ?_, fun i d e => ?_⟩⟩
  · obtain ⟨t, et, c, _, _, em, eh⟩ := wrote_get e
    rcases c with rfl | ⟨_, m2, _⟩
    · obtain ⟨v, ev, r⟩ := G1.sh i d et
      exact ⟨v, ev, s2.rp A.eok r⟩
    · cases m2
  · obtain ⟨a, _, _, ha, wa, oa, _⟩ := kind i s d e hd
    exact ⟨a, ha, wa, oa⟩
  · obtain ⟨t1, et1, _, _, _, em1, _⟩ := wrote_get e1
    obtain ⟨t2, et2, _, _, _, _, eh2⟩ := wrote_get e2
    exact G1.inj i j t1 t2 a n et1 et2 (by rw [em1]; exact m) (eh2.mpr hd) ha hb
  · refine s2.keep b x (s1.keep b x e n) fun m => ?_
    rcases hf b m with z | z
    · rw [e] at z; cases z
    · exact n z
  · refine s2.w b (s1.w b wb n) fun m => ?_
    rcases hf b m with z | z
    · obtain ⟨o, e⟩ := G.wok b wb
      rw [e] at z; cases z
    · exact n z
  · obtain ⟨e1, s⟩ := s1.lf i d e
    obtain ⟨s', es⟩ := wrote_of (os := os) (io := io) e1
    obtain ⟨t, et, _, hl, _⟩ := wrote_get es
    rw [e1] at et
    cases et
    have := (hl d).mp rfl
    subst this
    exact ⟨es, rfl⟩
  · obtain ⟨t, et, _, hl, _⟩ := wrote_get e
    have := (hl d).mpr rfl
    subst this
    exact s1.lb i d et
  · obtain ⟨⟨d1, e1⟩, s⟩ := s1.fx i d e
    obtain ⟨s', es⟩ := wrote_of (os := os) (io := io) e1
    obtain ⟨t, et, _, _, hi, _⟩ := wrote_get es
    rw [e1] at et
    cases et
    obtain ⟨d2, e2⟩ := hi.mp ⟨d1, rfl⟩
    subst e2
    exact ⟨⟨d2, es⟩, rfl⟩
end
theorem call_imp {T : Th} {C : Calls} {i : Nat} {w : Bool} {f : Gv → Rs (List Op)} {σ : L2.St} {H : Hp} {Q : VK} (h : tI T (fun g => (f g).bind fun os g => callR C i w os g) σ H Q) : tCallG T (spF T.xr C i) (tIs T f) σ H Q := by
  obtain ⟨W, g, G, h⟩ := h
  refine ⟨W, g, G, (Pst.bind0 h).mono fun os g1 W1 H1 _ s1 G1 h1 vs p => ?_⟩
  unfold callR at h1
  cases q : argsOf g1 w os with
  | none => rw [q] at h1; exact h1.elim
  | some as =>
    rw [q] at h1
    have q' : (if (w && (clash os || os.isEmpty)) = true then none else argL g1 w os) = some as := q
    -- what is given up
    obtain ⟨P, A, hP⟩ : ∃ P : Addr → Prop, ArgsOk (less W1 P) σ g1 H1 w vs os as ∧ ∀ a, P a → ownsOf vs os a := by
      cases w with
      | false => exact ⟨_, args_read G1 p (by simpa using q'), fun _ z => z⟩
      | true =>
        by_cases c : (clash os || os.isEmpty) = true
        · rw [if_pos (by simpa using c)] at q'; cases q'
        · rw [if_neg (by simpa using c)] at q'
          have c' : clash os = false ∧ os.isEmpty = false := by simpa using c
          refine ⟨_, args_write G1 p (fun z => by subst z; exact absurd c'.2 (by decide)) c'.1 q', fun a z => ?_⟩
          obtain ⟨pp, hp, o⟩ := z
          refine ⟨pp, ?_, o⟩
          cases vs with
          | nil => simp at hp
          | cons v vr =>
            cases os with
            | nil => simp at hp
            | cons o or =>
              simp only [List.tail_cons] at hp
              simp [hp]
    have fr : ∀ a, P a → ¬ HeldA σ g1 a ∧ (H a = none ∨ MutA σ g a) := fun a z => by
      obtain ⟨_, hq, o⟩ := hP a z
      exact ⟨(p.fresh hq o).2.1, (p.fresh hq o).2.2.1⟩
    have G2 := eok_less (P := P) G1 fun a z => (fr a z).1
    have s2 := stp_less (P := P) G s1 fun a z => (fr a z).2
    have hf : ∀ a, MutA (vs.map some) as a → H a = none ∨ MutA σ g a := fun a m => by
      obtain ⟨_, ev, src⟩ := mut_src A m
      rcases src with ⟨i, t, eo, ei, hm, hi⟩ | ⟨⟨d, eo⟩, n⟩
      · exact (s1.ob a ⟨i, t, ei, hm, hi⟩).elim .inr .inl
      · cases p with
        | nil => simp at eo
        | @cons v o vr or r _ _ =>
          have e1 : o = .val d true := by simpa using eo
          have e2 : v = .ref a := by simpa using ev
          subst e1 e2
          exact (r.fresh ⟨⟨d, rfl⟩, rfl⟩).2.2.1
    refine ⟨less W1 P, as, A.eok, ?_⟩
    cases hC : C i as with
    | bad => simp only [hC] at h1; exact h1.elim
    | ex c fs io =>
      simp only [hC] at h1
      by_cases fit : ioFit w io = true
      · rw [if_pos fit] at h1
        intro cls d H' W' s3 G3 x
        obtain ⟨G4, s4⟩ := call_back A G G2 s2 hf fit s3 G3
        exact h1 cls d H' W' s4 G4 x
      · rw [if_neg fit] at h1; exact h1.elim
    | ok d own io =>
      simp only [hC] at h1
      by_cases fit : ioFit w io = true
      · rw [if_pos fit] at h1
        intro v H' W' s3 G3 r
        obtain ⟨G4, s4⟩ := call_back A G G2 s2 hf fit s3 G3
        refine h1 H' W' s4 G4 v ?_
        cases own with
        | false => exact r
        | true =>
          obtain ⟨a, ea, wa, oa, n, f⟩ := r
          have gone : ¬ MutA (vs.map some) as a := fun m => by
            obtain ⟨hw, ev, _⟩ := mut_src A m
            obtain ⟨i', s', e', hm, hb⟩ := m
            have i0 := A.one hw i' s' e' hm
            subst i0
            cases io with
            | none =>
              rw [hw] at fit
              cases fit
            | some dd => exact n ⟨0, .io dd, dd, set_get e', rfl, hb⟩
          have hn : H1 a = none := f.elim id fun z => absurd z gone
          refine ⟨a, ea, wa, oa, fun z => ?_, .inl (s1.there a hn)⟩
          obtain ⟨j, s, d', e, hd, hj⟩ := z
          obtain ⟨t, et, _, _, _, _, eh⟩ := wrote_get e
          obtain ⟨d2, hd2⟩ := eh.mpr ⟨d', hd⟩
          obtain ⟨b, hb, wb, ob⟩ := G1.hd j t d2 et hd2
          have eb := ad_inj hb hj
          subst eb
          obtain ⟨x, ex⟩ := ob.there
          rw [hn] at ex; cases ex
      · rw [if_neg fit] at h1; exact h1.elim
end TL
/-! TL11: locks; lists written; what is walked. -/
namespace TL
open PySem PySem.Spec PyProof.Rows L2
variable [Plc]

section
variable {W W2 : Addr → Prop} {σ σ2 : L2.St} {g g2 : Gv} {H H2 : Hp}
theorem lock1_eok (G : EOk W H σ g) {i : Nat} {d : D} (e : g[i]? = some (.ow d)) : EOk W H σ (g.set i (.lk d)) := by
  refine ⟨by rw [List.length_set]; exact G.len, G.wok, fun j d' ej => ?_, fun j s d' ej hd => ?_, fun j k s t a n e1 e2 m hd ha hb => ?_⟩
  · rcases get_set ej with ⟨rfl, es⟩ | ⟨n, ej⟩
    · cases es
    · exact G.sh j d' ej
  · rcases get_set ej with ⟨rfl, es⟩ | ⟨n, ej⟩
    · subst es
      cases hd
      exact G.hd i _ d e rfl
    · exact G.hd j s d' ej hd
  · rcases get_set e1 with ⟨rfl, es⟩ | ⟨n1, e1⟩
    · subst es; cases m
    · rcases get_set e2 with ⟨rfl, es⟩ | ⟨n2, e2⟩
      · exact G.inj j i s _ a n e1 e m ⟨d, rfl⟩ ha hb
      · exact G.inj j k s t a n e1 e2 m hd ha hb
theorem lock_eok (G : EOk W H σ g) (i : Nat) : EOk W H σ (lock g i) := by
  unfold lock
  split
  · rename_i e
    exact lock1_eok G e
  · exact G
theorem lockL_eok : ∀ (is : List Nat) {g : Gv}, EOk W H σ g → EOk W H σ (lockL g is)
  | [], _, G => G
  | i :: is, _, G => lockL_eok is (lock_eok G i)
theorem unlock1 (G : EOk W H σ g) {i : Nat} {d : D} (e : g[i]? = some (.ow d)) (G2 : EOk W2 H2 σ2 g2) (s : Stp W σ (g.set i (.lk d)) H W2 σ2 g2 H2) : EOk W2 H2 σ2 (unlock g2 i) ∧ Stp W σ g H W2 σ2 (unlock g2 i) H2 := by
  obtain ⟨e2, sσ⟩ := s.lf i d (set_get e)
  have eu : unlock g2 i = g2.set i (.ow d) := by
    unfold unlock
    rw [e2]
  rw [eu]
  obtain ⟨a, ha, wa, oa⟩ := G.hd i _ d e rfl
  have ha2 : ad σ2 i a := by
    unfold ad
    rw [sσ]
    exact ha
  have mutSub : ∀ b, MutA σ (g.set i (.lk d)) b → MutA σ g b := fun b ⟨j, t, ej, m, hb⟩ => by
    rcases get_set ej with ⟨rfl, es⟩ | ⟨n, ej⟩
    · subst es; cases m
    · exact ⟨j, t, ej, m, hb⟩
  have notMut : ¬ MutA σ (g.set i (.lk d)) a := fun ⟨j, t, ej, m, hb⟩ => by
    rcases get_set ej with ⟨rfl, es⟩ | ⟨n, ej⟩
    · subst es; cases m
    · exact G.inj j i t _ a (Ne.symm n) ej e m ⟨d, rfl⟩ hb ha
  -- the others' addresses differ from a
  have apart : ∀ (j : Nat) (t : Slot), i ≠ j → g2[j]? = some t → (∃ d, t.hold = some d) → ¬ ad σ2 j a := fun j t n ej hd hj => by
    obtain ⟨dd, hd⟩ := hd
    rcases s.held ⟨j, t, dd, ej, hd, hj⟩ with ⟨k, u, d', ek, hk, hka⟩ | z
    · rcases get_set ek with ⟨rfl, es⟩ | ⟨n1, ek⟩
      · -- it would be the place i itself: then j's address is i's, but j ≠ i
        cases t with
        | un => cases hd
        | sh _ => cases hd
        | lk x =>
          have hlb := s.lb j x ej
          have hlf := (s.lf j x hlb).2
          rcases get_set hlb with ⟨z, _⟩ | ⟨_, hg⟩
          · exact n z
          · refine G.inj i j _ _ a n e hg rfl ⟨x, rfl⟩ ha ?_
            unfold ad
            rw [← hlf]
            exact hj
        | ow x =>
          rcases s.ob a ⟨j, _, ej, rfl, hj⟩ with z | z
          · exact notMut z
          · obtain ⟨y, ey⟩ := oa.there
            rw [ey] at z; cases z
        | io x =>
          rcases s.ob a ⟨j, _, ej, rfl, hj⟩ with z | z
          · exact notMut z
          · obtain ⟨y, ey⟩ := oa.there
            rw [ey] at z; cases z
      · exact G.inj i k _ u a n1 e ek rfl ⟨d', hk⟩ ha hka
    · obtain ⟨y, ey⟩ := oa.there
      rw [ey] at z; cases z
  refine ⟨⟨by rw [List.length_set]; exact G2.len, G2.wok, fun j d' ej => ?_, fun j t d' ej hd => ?_, fun j k t u b n e1 e3 m hd h1 h2 => ?_⟩, ⟨fun b x eb n => s.keep b x eb fun m => n (mutSub b m), s.there, fun b w n => s.w b w fun m => n (mutSub b m), s.wb, fun b m => ?_, fun j d' ej => ?_, fun j d' ej => ?_, fun j d' ej => ?_⟩⟩
  · rcases get_set ej with ⟨rfl, es⟩ | ⟨n, ej⟩
    · cases es
    · exact G2.sh j d' ej
  · rcases get_set ej with ⟨rfl, es⟩ | ⟨n, ej⟩
    · subst es
      cases hd
      exact G2.hd i _ d e2 rfl
    · exact G2.hd j t d' ej hd
  · rcases get_set e1 with ⟨rfl, es⟩ | ⟨n1, e1⟩
    · rcases get_set e3 with ⟨rfl, _⟩ | ⟨n2, e3⟩
      · exact n rfl
      · have := ad_inj h1 ha2
        subst this
        exact apart k u n2 e3 hd h2
    · rcases get_set e3 with ⟨rfl, es⟩ | ⟨n2, e3⟩
      · have := ad_inj h2 ha2
        subst this
        exact apart j t n1 e1 (Slot.hold_of_mut m) h1
      · exact G2.inj j k t u b n e1 e3 m hd h1 h2
  · obtain ⟨j, t, ej, m, hb⟩ := m
    rcases get_set ej with ⟨rfl, es⟩ | ⟨n, ej⟩
    · have := ad_inj hb ha2
      subst this
      exact .inl ⟨i, _, e, rfl, ha⟩
    · exact (s.ob b ⟨j, t, ej, m, hb⟩).imp (mutSub b) id
  · have n : i ≠ j := fun z => by subst z; rw [e] at ej; cases ej
    obtain ⟨e3, s3⟩ := s.lf j d' (by rw [List.getElem?_set_ne n]; exact ej)
    exact ⟨by rw [List.getElem?_set_ne n]; exact e3, s3⟩
  · rcases get_set ej with ⟨rfl, es⟩ | ⟨n, ej⟩
    · cases es
    · have := s.lb j d' ej
      rcases get_set this with ⟨z, _⟩ | ⟨_, hg⟩
      · exact absurd z n
      · exact hg
  · have n : i ≠ j := fun z => by subst z; rw [e] at ej; cases ej
    obtain ⟨⟨d2, e3⟩, s3⟩ := s.fx j d' (by rw [List.getElem?_set_ne n]; exact ej)
    exact ⟨⟨d2, by rw [List.getElem?_set_ne n]; exact e3⟩, s3⟩
/-- the places stand to be locked, one after another -/
def LockOk : Gv → List Nat → Prop
  | _, [] => True
  | g, i :: is => (∃ d, g[i]? = some (Slot.ow d)) ∧ LockOk (lock g i) is
theorem unlock_back : ∀ (is : List Nat) {g : Gv}, LockOk g is → EOk W H σ g → ∀ {W2 : Addr → Prop} {g2 : Gv} {H2 : Hp}, EOk W2 H2 σ2 g2 → Stp W σ (lockL g is) H W2 σ2 g2 H2 → EOk W2 H2 σ2 (unlockL g2 is) ∧ Stp W σ g H W2 σ2 (unlockL g2 is) H2
  | [], _, _, _, _, _, _, G2, s => ⟨G2, s⟩
  | i :: is, g, ok, G, _, _, _, G2, s => by
    obtain ⟨⟨d, e⟩, ok⟩ := ok
    obtain ⟨G3, s3⟩ := unlock_back is ok (lock_eok G i) G2 s
    have el : lock g i = g.set i (.lk d) := by
      unfold lock
      rw [e]
    rw [el] at s3
    exact unlock1 G e G3 s3
theorem locks_ok (g : Gv) (o : Op) : LockOk g (locks g o) := by
  unfold locks
  split
  · split
    · rename_i i _ d e
      exact ⟨⟨d, e⟩, trivial⟩
    · exact trivial
  · exact trivial
theorem lockOk_app : ∀ {l1 l2 : List Nat} {g : Gv}, LockOk g l1 → LockOk (lockL g l1) l2 → LockOk g (l1 ++ l2)
  | [], _, _, _, h => h
  | _ :: _, _, _, h1, h => ⟨h1.1, lockOk_app h1.2 h⟩
theorem lockL_app : ∀ (l1 l2 : List Nat) (g : Gv), lockL g (l1 ++ l2) = lockL (lockL g l1) l2
  | [], _, _ => rfl
  | i :: l1, l2, g => lockL_app l1 l2 (lock g i)
end

/-! ### a list of one's own is written -/
section
variable {W : Addr → Prop} {σ : L2.St} {g : Gv} {H : Hp} {i : Nat} {xs ys : List D}
theorem mutL_at (G : EOk W H σ g) (h : mutL g i = some xs) : ∃ (s : Slot) (a : Addr) (vs : List V), g[i]? = some s ∧ s.mut = true ∧ s.hold = some (.list xs) ∧ ad σ i a ∧ W a ∧ H a = some (.lst vs) ∧ vs.length ≤ sizeLine ∧ RpA W H vs xs := by
  unfold mutL at h
  split at h
  · rename_i d e
    cases h
    obtain ⟨a, ha, wa, vs, h1, h2, h3⟩ := G.hd i _ _ e rfl
    exact ⟨_, a, vs, e, rfl, rfl, ha, wa, h1, h2, h3⟩
  · rename_i d e
    cases h
    obtain ⟨a, ha, wa, vs, h1, h2, h3⟩ := G.hd i _ _ e rfl
    exact ⟨_, a, vs, e, rfl, rfl, ha, wa, h1, h2, h3⟩
  · cases h
/-- the place's kind with another list -/
theorem setL_set {s : Slot} (e : g[i]? = some s) (m : s.mut = true) : ∃ t, setL g i ys = g.set i t ∧ t.mut = true ∧ t.hold = some (.list ys) ∧ ((∃ d, s = .io d) ↔ ∃ d, t = .io d) := by
  unfold setL
  cases s with
  | un => cases m
  | sh _ => cases m
  | lk _ => cases m
  | ow d => simp only [e]; exact ⟨_, rfl, rfl, rfl, ⟨(fun ⟨_, z⟩ => nomatch z), (fun ⟨_, z⟩ => nomatch z)⟩⟩
  | io d => simp only [e]; exact ⟨_, rfl, rfl, rfl, ⟨fun _ => ⟨_, rfl⟩, fun _ => ⟨_, rfl⟩⟩⟩
theorem write_list (G : EOk W H σ g) {s : Slot} {a : Addr} (e : g[i]? = some s) (m : s.mut = true) (ha : ad σ i a) {vs : List V} (l : vs.length ≤ sizeLine) (r : RpA W H vs ys) :
    EOk W (upd H a (.lst vs)) σ (setL g i ys) ∧ Stp W σ g H W σ (setL g i ys) (upd H a (.lst vs)) := by
  obtain ⟨t, et, mt, ht, hio⟩ := setL_set (ys := ys) e m
  rw [et]
  obtain ⟨d0, hd0⟩ := Slot.hold_of_mut m
  obtain ⟨a', ha', wa, oa⟩ := G.hd i s d0 e hd0
  have ea := ad_inj ha' ha
  subst ea
  have kp : Kept W H (upd H a' (.lst vs)) := fun b x eb n => by
    rw [upd_ne (fun z => n (by rw [z]; exact wa))]
    exact eb
  have sb : Sub W H W := fun b w => .inl w
  refine ⟨⟨by rw [List.length_set]; exact G.len, fun b w => ?_, fun j d ej => ?_, fun j u d ej hd => ?_, fun j k u v b n e1 e2 mm hd h1 h2 => ?_⟩, ⟨fun b x eb n => ?_, fun b eb => ?_, fun b w _ => w, sb, fun b mm => ?_, fun j d ej => ?_, fun j d ej => ?_, fun j d ej => ?_⟩⟩
  · by_cases z : b = a'
    · rw [z]; exact ⟨_, upd_same⟩
    · rw [upd_ne z]; exact G.wok b w
  · rcases get_set ej with ⟨rfl, es⟩ | ⟨n, ej⟩
    · subst es; cases mt
    · obtain ⟨v, ev, rv⟩ := G.sh j d ej
      exact ⟨v, ev, Rp.mono kp sb d v rv⟩
  · rcases get_set ej with ⟨rfl, es⟩ | ⟨n, ej⟩
    · subst es
      rw [ht] at hd
      cases hd
      exact ⟨a', ha, wa, vs, upd_same, l, RpA.mono kp sb _ _ r⟩
    · obtain ⟨b, hb, wb, ob⟩ := G.hd j u d ej hd
      refine ⟨b, hb, wb, Own.mono kp sb (fun x ex => ?_) ob⟩
      rw [upd_ne (fun z => by subst z; exact G.inj i j s u _ n e ej m ⟨d, hd⟩ ha hb)]
      exact ex
  · rcases get_set e1 with ⟨rfl, es⟩ | ⟨n1, e1⟩
    · rcases get_set e2 with ⟨rfl, _⟩ | ⟨n2, e2⟩
      · exact n rfl
      · exact G.inj i k s v b n e e2 m hd h1 h2
    · rcases get_set e2 with ⟨rfl, es⟩ | ⟨n2, e2⟩
      · exact G.inj j i u s b n e1 e mm ⟨d0, hd0⟩ h1 h2
      · exact G.inj j k u v b n e1 e2 mm hd h1 h2
  · rw [upd_ne (fun z => n (by rw [z]; exact ⟨i, s, e, m, ha⟩))]
    exact eb
  · by_cases z : b = a'
    · rw [z, upd_same] at eb; cases eb
    · rw [upd_ne z] at eb; exact eb
  · obtain ⟨j, u, ej, mj, hb⟩ := mm
    rcases get_set ej with ⟨rfl, es⟩ | ⟨n, ej⟩
    · exact .inl ⟨i, s, e, m, hb⟩
    · exact .inl ⟨j, u, ej, mj, hb⟩
  · have n : i ≠ j := fun z => by subst z; rw [e] at ej; cases ej; cases m
    exact ⟨by rw [List.getElem?_set_ne n]; exact ej, rfl⟩
  · rcases get_set ej with ⟨rfl, es⟩ | ⟨n, ej⟩
    · subst es; cases mt
    · exact ej
  · by_cases n : i = j
    · subst n
      rw [e] at ej
      cases ej
      obtain ⟨d', ed⟩ := hio.mp ⟨d, rfl⟩
      subst ed
      exact ⟨⟨d', set_get e⟩, rfl⟩
    · exact ⟨⟨d, by rw [List.getElem?_set_ne n]; exact ej⟩, rfl⟩
end
/-! ### a dict of one's own is written -/
section
variable {W : Addr → Prop} {σ : L2.St} {g : Gv} {H : Hp} {i : Nat} {xs ys : List (D × D)}
theorem mutD_at (G : EOk W H σ g) (h : mutDc g i = some xs) : ∃ (s : Slot) (a : Addr) (vs : List (Key × V)), g[i]? = some s ∧ s.mut = true ∧ s.hold = some (.dict xs) ∧ ad σ i a ∧ W a ∧ H a = some (.dK vs) ∧ vs.length ≤ sizeLine ∧ RpK W H vs xs := by
  unfold mutDc at h
  split at h
  · rename_i d e
    cases h
    obtain ⟨a, ha, wa, vs, h1, h2, h3⟩ := G.hd i _ _ e rfl
    exact ⟨_, a, vs, e, rfl, rfl, ha, wa, h1, h2, h3⟩
  · rename_i d e
    cases h
    obtain ⟨a, ha, wa, vs, h1, h2, h3⟩ := G.hd i _ _ e rfl
    exact ⟨_, a, vs, e, rfl, rfl, ha, wa, h1, h2, h3⟩
  · cases h
/-- the place's kind with another list -/
theorem setD_set {s : Slot} (e : g[i]? = some s) (m : s.mut = true) : ∃ t, setDc g i ys = g.set i t ∧ t.mut = true ∧ t.hold = some (.dict ys) ∧ ((∃ d, s = .io d) ↔ ∃ d, t = .io d) := by
  unfold setDc
  cases s with
  | un => cases m
  | sh _ => cases m
  | lk _ => cases m
  | ow d => simp only [e]; exact ⟨_, rfl, rfl, rfl, ⟨(fun ⟨_, z⟩ => nomatch z), (fun ⟨_, z⟩ => nomatch z)⟩⟩
  | io d => simp only [e]; exact ⟨_, rfl, rfl, rfl, ⟨fun _ => ⟨_, rfl⟩, fun _ => ⟨_, rfl⟩⟩⟩
theorem write_dict (G : EOk W H σ g) {s : Slot} {a : Addr} (e : g[i]? = some s) (m : s.mut = true) (ha : ad σ i a) {vs : List (Key × V)} (l : vs.length ≤ sizeLine) (r : RpK W H vs ys) :
    EOk W (upd H a (.dK vs)) σ (setDc g i ys) ∧ Stp W σ g H W σ (setDc g i ys) (upd H a (.dK vs)) := by
  obtain ⟨t, et, mt, ht, hio⟩ := setD_set (ys := ys) e m
  rw [et]
  obtain ⟨d0, hd0⟩ := Slot.hold_of_mut m
  obtain ⟨a', ha', wa, oa⟩ := G.hd i s d0 e hd0
  have ea := ad_inj ha' ha
  subst ea
  have kp : Kept W H (upd H a' (.dK vs)) := fun b x eb n => by
    rw [upd_ne (fun z => n (by rw [z]; exact wa))]
    exact eb
  have sb : Sub W H W := fun b w => .inl w
  refine ⟨⟨by rw [List.length_set]; exact G.len, fun b w => ?_, fun j d ej => ?_, fun j u d ej hd => ?_, fun j k u v b n e1 e2 mm hd h1 h2 => ?_⟩, ⟨fun b x eb n => ?_, fun b eb => ?_, fun b w _ => w, sb, fun b mm => ?_, fun j d ej => ?_, fun j d ej => ?_, fun j d ej => ?_⟩⟩
  · by_cases z : b = a'
    · rw [z]; exact ⟨_, upd_same⟩
    · rw [upd_ne z]; exact G.wok b w
  · rcases get_set ej with ⟨rfl, es⟩ | ⟨n, ej⟩
    · subst es; cases mt
    · obtain ⟨v, ev, rv⟩ := G.sh j d ej
      exact ⟨v, ev, Rp.mono kp sb d v rv⟩
  · rcases get_set ej with ⟨rfl, es⟩ | ⟨n, ej⟩
    · subst es
      rw [ht] at hd
      cases hd
      exact ⟨a', ha, wa, vs, upd_same, l, RpK.mono kp sb _ _ r⟩
    · obtain ⟨b, hb, wb, ob⟩ := G.hd j u d ej hd
      refine ⟨b, hb, wb, Own.mono kp sb (fun x ex => ?_) ob⟩
      rw [upd_ne (fun z => by subst z; exact G.inj i j s u _ n e ej m ⟨d, hd⟩ ha hb)]
      exact ex
  · rcases get_set e1 with ⟨rfl, es⟩ | ⟨n1, e1⟩
    · rcases get_set e2 with ⟨rfl, _⟩ | ⟨n2, e2⟩
      · exact n rfl
      · exact G.inj i k s v b n e e2 m hd h1 h2
    · rcases get_set e2 with ⟨rfl, es⟩ | ⟨n2, e2⟩
      · exact G.inj j i u s b n e1 e mm ⟨d0, hd0⟩ h1 h2
      · exact G.inj j k u v b n e1 e2 mm hd h1 h2
  · rw [upd_ne (fun z => n (by rw [z]; exact ⟨i, s, e, m, ha⟩))]
    exact eb
  · by_cases z : b = a'
    · rw [z, upd_same] at eb; cases eb
    · rw [upd_ne z] at eb; exact eb
  · obtain ⟨j, u, ej, mj, hb⟩ := mm
    rcases get_set ej with ⟨rfl, es⟩ | ⟨n, ej⟩
    · exact .inl ⟨i, s, e, m, hb⟩
    · exact .inl ⟨j, u, ej, mj, hb⟩
  · have n : i ≠ j := fun z => by subst z; rw [e] at ej; cases ej; cases m
    exact ⟨by rw [List.getElem?_set_ne n]; exact ej, rfl⟩
  · rcases get_set ej with ⟨rfl, es⟩ | ⟨n, ej⟩
    · subst es; cases mt
    · exact ej
  · by_cases n : i = j
    · subst n
      rw [e] at ej
      cases ej
      obtain ⟨d', ed⟩ := hio.mp ⟨d, rfl⟩
      subst ed
      exact ⟨⟨d', set_get e⟩, rfl⟩
    · exact ⟨⟨d, by rw [List.getElem?_set_ne n]; exact ej⟩, rfl⟩
end
/-- an operand that is kept -/
theorem keep_one {W W1 : Addr → Prop} {σ : L2.St} {g g1 : Gv} {H H1 : Hp} {v : V} {d : D} {own : Bool} (G : EOk W H σ g) (G1 : EOk W1 H1 σ g1) (s1 : Stp W σ g H W1 σ g1 H1) (r : ORp σ g H W1 g1 H1 v (.val d own)) :
    ∃ P : Addr → Prop, EOk (less W1 P) H1 σ g1 ∧ Stp W σ g H (less W1 P) σ g1 H1 ∧ Rp (less W1 P) H1 v d := by
  have p : Pend σ g H W1 g1 H1 [v] [.val d own] := .cons r (fun _ _ p hp => by simp at hp) .nil
  obtain ⟨G2, s2⟩ := kept_ops G G1 s1 p
  refine ⟨_, G2, s2, ?_⟩
  have q := p.vals (P := ownsOf [v] [.val d own]) (fun _ z => z) (ds := [d]) rfl
  cases q with
  | cons a _ => exact a
/-- x.append(e) -/
theorem app_imp {T : Th} {K : PySem.W.Frag} {f : Gv → Rs Op} {i : Nat} {σ : L2.St} {H : Hp} {Q : VK} (h : tI T (fun g => match mutL g i with | none => .bad | some _ => (f g).bind fun a g => finApp i a g) σ H Q) :
    tBM K "list" rAppend (tVar i) (tCons (tI T f) tNil) σ H Q := by
  obtain ⟨W, g, G, h⟩ := h
  cases q : mutL g i with
  | none => simp only [q] at h; exact h.elim
  | some xs =>
    simp only [q] at h
    obtain ⟨s, a, vs, e, m, hd, ha, wa, h1, l1, r1⟩ := mutL_at G q
    refine ⟨.ref a, ha, .inl ⟨rfl, vs, .inl (.inl h1)⟩, W, g, G, (Pst.bind0 h).mono fun o g1 W1 H1 _ s1 G1 h2 v r => ?_⟩
    unfold finApp at h2
    cases o with
    | slot j => exact h2.elim
    | val d own =>
      cases q2 : mutL g1 i with
      | none => simp only [q2] at h2; exact h2.elim
      | some ys =>
        simp only [q2] at h2
        by_cases l : ys.length < sizeLine
        · rw [if_pos l] at h2
          obtain ⟨P, G2, s2, rv⟩ := keep_one G G1 s1 r
          obtain ⟨s', a', us, e', m', hd', ha', wa', h1', l1', r1'⟩ := mutL_at G2 q2
          have ea := ad_inj ha' ha
          subst ea
          have len : (us ++ [v]).length ≤ sizeLine := by
            rw [List.length_append, r1'.length]
            exact l
          obtain ⟨G3, s3⟩ := write_list (ys := ys ++ [d]) G2 e' m' ha' len (r1'.append (.cons rv .nil))
          exact ⟨a', us, v, rfl, rfl, h1', by rw [r1'.length]; exact l, h2 _ _ (s2.trans G.wok s3) G3 .non .non⟩
        · rw [if_neg l] at h2; exact h2.elim
/-- x.pop() -/
theorem pop_imp {T : Th} {K : PySem.W.Frag} {i : Nat} {σ : L2.St} {H : Hp} {Q : VK} (h : tI T (finPop i) σ H Q) : tBM0 K "list" rPop (tVar i) σ H Q := by
  obtain ⟨W, g, G, h⟩ := h
  unfold finPop at h
  cases q : mutL g i with
  | none => simp only [q] at h; exact h.elim
  | some xs =>
    simp only [q] at h
    obtain ⟨s, a, vs, e, m, hd, ha, wa, h1, l1, r1⟩ := mutL_at G q
    cases q2 : xs[xs.length - 1]? with
    | none => simp only [q2] at h; exact h.elim
    | some d =>
      simp only [q2] at h
      obtain ⟨v, ev, rv⟩ := r1.get q2
      have r2 : RpA W H vs.dropLast xs.dropLast := by
        rw [List.dropLast_eq_take, List.dropLast_eq_take, r1.length]
        exact r1.take _
      obtain ⟨G3, s3⟩ := write_list (ys := xs.dropLast) G e m ha (vs := vs.dropLast) (by rw [List.length_dropLast]; omega) r2
      exact ⟨.ref a, ha, .inl ⟨rfl, vs, .inl (.inl h1)⟩, a, vs, v, rfl, rfl, h1, by rw [r1.length]; exact ev, h _ _ s3 G3 _ (s3.rp G rv)⟩
/-- x.pop(e) -/
theorem popk_imp {T : Th} {K : PySem.W.Frag} {f : Gv → Rs Op} {i : Nat} {σ : L2.St} {H : Hp} {Q : VK} (h : tI T (fun g => match mutL g i with | none => .bad | some _ => (f g).bind fun a g => finPopk i a g) σ H Q) :
    tBM K "list" rPopAt (tVar i) (tCons (tI T f) tNil) σ H Q := by
  obtain ⟨W, g, G, h⟩ := h
  cases q : mutL g i with
  | none => simp only [q] at h; exact h.elim
  | some xs =>
    simp only [q] at h
    obtain ⟨s, a, vs, e, m, hd, ha, wa, h1, l1, r1⟩ := mutL_at G q
    refine ⟨.ref a, ha, .inl ⟨rfl, vs, .inl (.inl h1)⟩, W, g, G, (Pst.bind0 h).mono fun o g1 W1 H1 _ s1 G1 h2 u ru => ?_⟩
    unfold finPopk at h2
    cases q0 : o.res g1 with
    | none => simp only [q0] at h2; exact h2.elim
    | some dk =>
      simp only [q0] at h2
      cases dk with
      | int k =>
        have e5 := (ru.opd.rb G1 q0).int
        subst e5
        cases q2 : mutL g1 i with
        | none => simp only [q2] at h2; exact h2.elim
        | some ys =>
          simp only [q2] at h2
          cases q3 : L2.ixN ys.length k with
          | none => simp only [q3] at h2; exact h2.elim
          | some j =>
            simp only [q3] at h2
            cases q4 : ys[j]? with
            | none => simp only [q4] at h2; exact h2.elim
            | some d =>
              simp only [q4] at h2
              obtain ⟨s', a', us, e', m', hd', ha', wa', h1', l1', r1'⟩ := mutL_at G1 q2
              have ea := ad_inj ha' ha
              subst ea
              obtain ⟨v, ev, rv⟩ := r1'.get q4
              obtain ⟨x1, x2, x3, x4⟩ := ixN_seq q3
              have lu : us.length ≤ sizeLine := l1'
              have e16 : sizeLine = 16777216 := by decide
              have r2 : RpA W1 H1 (us.eraseIdx j) (ys.eraseIdx j) := by
                rw [List.eraseIdx_eq_take_drop_succ, List.eraseIdx_eq_take_drop_succ]
                exact (r1'.take _).append (r1'.drop _)
              obtain ⟨G3, s3⟩ := write_list (ys := ys.eraseIdx j) G1 e' m' ha' (vs := us.eraseIdx j) (Nat.le_trans (List.length_eraseIdx_le _ _) lu) r2
              have ln := r1'.length
              exact ⟨a', us, k, j, v, rfl, rfl, h1', by omega, by omega, by rw [ln]; exact x1, ev, h2 _ _ (s1.trans G.wok s3) G3 _ (s3.rp G1 rv)⟩
      | none => exact h2.elim
      | bool _ => exact h2.elim
      | str _ => exact h2.elim
      | list _ => exact h2.elim
      | tuple _ => exact h2.elim
      | dict _ => exact h2.elim
end TL
/-! TL12: what is walked; targets. -/
namespace TL
open PySem PySem.Spec PyProof.Rows L2
variable [Plc]

/-- an iterator that hands out the trees ds, whatever is written to M meanwhile -/
structure Feeds (W0 : Addr → Prop) (H0 : Hp) (M : Addr → Prop) (J : L2.It) (ds : List D) : Prop where
  go : ∀ i H, Kept M H0 H → i < ds.length → J.go i H
  stop : ∀ i H, Kept M H0 H → ds.length ≤ i → J.stop i H
  yld : ∀ i H (W : Addr → Prop) x H' d, Kept M H0 H → Sub W0 H0 W → (∀ b, W b → ∃ o, H b = some o) → ds[i]? = some d → J.yld i H x H' → Same H H' ∧ Rp W H' x d
section
variable {K : PySem.W.Frag} {W0 : Addr → Prop} {H0 : Hp} {M : Addr → Prop} {a b : Addr} {xs ys : List V} {ds es : List D}
theorem rd_kept (r : Rd H0 a (.lst xs)) (n : ¬ M a) {H : Hp} (k : Kept M H0 H) : SqL K H a xs := .inl (rd_keep r fun x e => k a x e n)
theorem rd_keptT (r : Rd H0 a (.tup xs)) (n : ¬ M a) {H : Hp} (k : Kept M H0 H) : SqT K H a xs := .inl (rd_keep r fun x e => k a x e n)
theorem kept_of (hM : ∀ b, M b → W0 b) {H : Hp} (k : Kept M H0 H) : Kept W0 H0 H := fun b x e n => k b x e fun m => n (hM b m)
theorem feeds_list (hM : ∀ b, M b → W0 b) (r : Rd H0 a (.lst xs)) (n : ¬ M a) (q : RpA W0 H0 xs ds) : Feeds W0 H0 M (Itl K a) ds where
  go := fun i H k l => by
    obtain ⟨v, e, _⟩ := q.get (n := i) (List.getElem?_eq_getElem l)
    exact ⟨xs, v, rd_kept r n k, e⟩
  stop := fun i H k l => ⟨xs, rd_kept r n k, by rw [q.length]; exact l⟩
  yld := fun i H W x H' d k sb wok e y => by
    obtain ⟨rfl, y⟩ := y
    obtain ⟨v, ev, rv⟩ := q.get e
    have ex := y xs (rd_kept r n k)
    rw [ev] at ex
    cases ex
    exact ⟨Same.refl _, Rp.mono (kept_of hM k) sb d _ rv⟩
theorem feeds_tup (hM : ∀ b, M b → W0 b) (r : Rd H0 a (.tup xs)) (n : ¬ M a) (q : RpA W0 H0 xs ds) : Feeds W0 H0 M (Itt K a) ds where
  go := fun i H k l => by
    obtain ⟨v, e, _⟩ := q.get (n := i) (List.getElem?_eq_getElem l)
    exact ⟨xs, v, rd_keptT r n k, e⟩
  stop := fun i H k l => ⟨xs, rd_keptT r n k, by rw [q.length]; exact l⟩
  yld := fun i H W x H' d k sb wok e y => by
    obtain ⟨rfl, y⟩ := y
    obtain ⟨v, ev, rv⟩ := q.get e
    have ex := y xs (rd_keptT r n k)
    rw [ev] at ex
    cases ex
    exact ⟨Same.refl _, Rp.mono (kept_of hM k) sb d _ rv⟩
theorem rpK_at {W : Addr → Prop} {H : Hp} : ∀ {kvs : List (Key × V)} {ds : List (D × D)} {i : Nat} {p : Key × V}, RpK W H kvs ds → kvs[i]? = some p → (ds.map (·.1))[i]? = some (kD p.1)
  | _, _, _, _, .nil, e => by simp at e
  | _, _, 0, _, .cons a t, e => by
    have e' : some _ = some _ := e
    cases e'
    rfl
  | _, _, i + 1, _, .cons a t, e => by
    have ih := rpK_at (i := i) t (by simpa using e)
    simpa using ih
theorem feeds_keys {o : Obj} {kvs : List (Key × V)} {fs : List (D × D)} (r : H0 a = some (.frz o (.dK kvs))) (n : ¬ M a) (q : RpK W0 H0 kvs fs) : Feeds W0 H0 M (Itk a o kvs) (fs.map (·.1)) where
  go := fun i H k l => ⟨k a _ r n, by rw [rpK_len q]; simpa using l⟩
  stop := fun i H k l => ⟨k a _ r n, by rw [rpK_len q]; simpa using l⟩
  yld := fun i H W x H' d k sb wok e y => by
    obtain ⟨rfl, key, v, e1, rfl⟩ := y
    have e2 := rpK_at q e1
    rw [e] at e2
    cases e2
    refine ⟨Same.refl _, ?_⟩
    cases key with
    | inl i => exact .int i
    | inr s => exact .str s
theorem feeds_str (x : Str) : Feeds W0 H0 M (Its x) (signs x) where
  go := fun i H k l => by
    show i < x.cps.size
    simpa [signs] using l
  stop := fun i H k l => by
    show x.cps.size ≤ i
    simpa [signs] using l
  yld := fun i H W v H' d k sb wok e y => by
    obtain ⟨rfl, c, ec, rfl⟩ := y
    have e2 : (signs x)[i]? = some (.str ⟨#[c]⟩) := by
      unfold signs
      rw [List.getElem?_map, Array.getElem?_toList, ec]
      rfl
    rw [e] at e2
    cases e2
    exact ⟨Same.refl _, .str _⟩
theorem feeds_rng (lo : Int) (n : Nat) : Feeds W0 H0 M (Itr lo n) (rngL lo n) where
  go := fun i H k l => by
    show i < n
    simpa [rngL] using l
  stop := fun i H k l => by
    show n ≤ i
    simpa [rngL] using l
  yld := fun i H W v H' d k sb wok e y => by
    obtain ⟨rfl, rfl⟩ := y
    have l : i < n := by
      have := (List.getElem?_eq_some_iff.mp e).1
      simpa [rngL] using this
    have e2 : (rngL lo n)[i]? = some (.int (lo + (i : Nat))) := by
      unfold rngL
      rw [List.getElem?_map, List.getElem?_range l]
      rfl
    rw [e] at e2
    cases e2
    exact ⟨Same.refl _, .int _⟩
theorem numbered_at : ∀ (k : Nat) (ds : List D) (i : Nat), (numbered k ds)[i]? = (ds[i]?).map fun d => .tuple [.int ((k + i : Nat) : Int), d]
  | k, [], i => by simp [numbered]
  | k, d :: ds, 0 => by simp [numbered]
  | k, d :: ds, i + 1 => by
    show (numbered (k + 1) ds)[i]? = _
    rw [numbered_at (k + 1) ds i]
    have : k + 1 + i = k + (i + 1) := by omega
    rw [this]
    rfl
theorem numbered_len : ∀ (k : Nat) (ds : List D), (numbered k ds).length = ds.length
  | _, [] => rfl
  | k, d :: ds => by
    show (numbered (k + 1) ds).length + 1 = _
    rw [numbered_len]
    rfl
theorem feeds_enum (hM : ∀ b, M b → W0 b) (r : Rd H0 a (.lst xs)) (n : ¬ M a) (q : RpA W0 H0 xs ds) : Feeds W0 H0 M (Ite K a) (numbered 0 ds) where
  go := fun i H k l => by
    rw [numbered_len] at l
    obtain ⟨v, e, _⟩ := q.get (n := i) (List.getElem?_eq_getElem l)
    exact ⟨xs, v, rd_kept r n k, e⟩
  stop := fun i H k l => ⟨xs, rd_kept r n k, by rw [numbered_len] at l; rw [q.length]; exact l⟩
  yld := fun i H W x H' d k sb wok e y => by
    obtain ⟨T, v, rfl, nT, rfl, y⟩ := y
    rw [numbered_at] at e
    cases ed : ds[i]? with
    | none => rw [ed] at e; cases e
    | some dd =>
      rw [ed] at e
      have e' : some (PyData.tuple [.int ((0 + i : Nat) : Int), dd]) = some d := e
      cases e'
      obtain ⟨u, eu, ru⟩ := q.get ed
      have ex := y xs (rd_kept r n k)
      have euv : u = v := by rw [eu] at ex; exact Option.some.inj ex
      subst euv
      have wT : ¬ W T := fun z => by
        obtain ⟨o, eo⟩ := wok T z
        rw [nT] at eo; cases eo
      have ri : Rp W H (.int ((i : Nat) : Int)) (.int ((0 + i : Nat) : Int)) := by rw [Nat.zero_add]; exact .int _
      have rr : RpA W H [V.int ((i : Nat) : Int), u] [.int ((0 + i : Nat) : Int), dd] := .cons ri (.cons (Rp.mono (kept_of hM k) sb dd _ ru) .nil)
      exact ⟨same_upd nT, .tup wT (by show 2 ≤ sizeLine; decide) (.inl upd_same) (rr.new nT)⟩
theorem feeds_enumS (x : Str) : Feeds W0 H0 M (IteS x) (numbered 0 (signs x)) where
  go := fun i H k l => by
    rw [numbered_len] at l
    show i < x.cps.size
    simpa [signs] using l
  stop := fun i H k l => by
    rw [numbered_len] at l
    show x.cps.size ≤ i
    simpa [signs] using l
  yld := fun i H W v H' d k sb wok e y => by
    obtain ⟨T, c, rfl, nT, ec, rfl⟩ := y
    have e2 : (signs x)[i]? = some (.str ⟨#[c]⟩) := by
      unfold signs
      rw [List.getElem?_map, Array.getElem?_toList, ec]
      rfl
    rw [numbered_at, e2] at e
    have e' : some (PyData.tuple [.int ((0 + i : Nat) : Int), .str ⟨#[c]⟩]) = some d := e
    cases e'
    have wT : ¬ W T := fun z => by
      obtain ⟨o, eo⟩ := wok T z
      rw [nT] at eo; cases eo
    have ri : Rp W H (.int ((i : Nat) : Int)) (.int ((0 + i : Nat) : Int)) := by rw [Nat.zero_add]; exact .int _
    have rr : RpA W H [V.int ((i : Nat) : Int), .str ⟨#[c]⟩] [.int ((0 + i : Nat) : Int), .str ⟨#[c]⟩] := .cons ri (.cons (.str _) .nil)
    exact ⟨same_upd nT, .tup wT (by show 2 ≤ sizeLine; decide) (.inl upd_same) (rr.new nT)⟩
theorem pairs_at : ∀ (xs ys : List D) (i : Nat) (d : D), (pairs xs ys)[i]? = some d → ∃ x y, xs[i]? = some x ∧ ys[i]? = some y ∧ d = .tuple [x, y]
  | [], ys, i, d, h => by simp [pairs] at h
  | x :: xs, [], i, d, h => by simp [pairs] at h
  | x :: xs, y :: ys, 0, d, h => by
    have h' : some (PyData.tuple [x, y]) = some d := h
    cases h'
    exact ⟨x, y, rfl, rfl, rfl⟩
  | x :: xs, y :: ys, i + 1, d, h => pairs_at xs ys i d h
theorem pairs_len : ∀ (xs ys : List D), (pairs xs ys).length = min xs.length ys.length
  | [], ys => by simp [pairs]
  | x :: xs, [] => by simp [pairs]
  | x :: xs, y :: ys => by
    show (pairs xs ys).length + 1 = _
    rw [pairs_len]
    simp only [List.length_cons]
    omega
theorem feeds_zip (hM : ∀ b, M b → W0 b) (r : Rd H0 a (.lst xs)) (n : ¬ M a) (q : RpA W0 H0 xs ds) (r2 : Rd H0 b (.lst ys)) (n2 : ¬ M b) (q2 : RpA W0 H0 ys es) : Feeds W0 H0 M (Itz K a b) (pairs ds es) where
  go := fun i H k l => by
    rw [pairs_len] at l
    obtain ⟨v, e, _⟩ := q.get (n := i) (List.getElem?_eq_getElem (by omega))
    obtain ⟨u, e2, _⟩ := q2.get (n := i) (List.getElem?_eq_getElem (by omega))
    exact ⟨xs, ys, v, u, rd_kept r n k, rd_kept r2 n2 k, e, e2⟩
  stop := fun i H k l => ⟨xs, ys, rd_kept r n k, rd_kept r2 n2 k, by rw [pairs_len] at l; rw [q.length, q2.length]; omega⟩
  yld := fun i H W x H' d k sb wok e y => by
    obtain ⟨T, v, u, rfl, nT, rfl, y1, y2⟩ := y
    obtain ⟨d1, d2, e1, e2, rfl⟩ := pairs_at _ _ _ _ e
    obtain ⟨v', ev, rv⟩ := q.get e1
    obtain ⟨u', eu, ru⟩ := q2.get e2
    have ex := y1 xs (rd_kept r n k)
    rw [ev] at ex
    cases ex
    have ey := y2 ys (rd_kept r2 n2 k)
    rw [eu] at ey
    cases ey
    have wT : ¬ W T := fun z => by
      obtain ⟨o, eo⟩ := wok T z
      rw [nT] at eo; cases eo
    have rr : RpA W H [v, u] [d1, d2] := .cons (Rp.mono (kept_of hM k) sb d1 _ rv) (.cons (Rp.mono (kept_of hM k) sb d2 _ ru) .nil)
    exact ⟨same_upd nT, .tup wT (by show 2 ≤ sizeLine; decide) (.inl upd_same) (rr.new nT)⟩
theorem feeds_zipT (hM : ∀ b, M b → W0 b) (r : Rd H0 a (.tup xs)) (n : ¬ M a) (q : RpA W0 H0 xs ds) (r2 : Rd H0 b (.tup ys)) (n2 : ¬ M b) (q2 : RpA W0 H0 ys es) : Feeds W0 H0 M (RZ.ItzT K a b) (pairs ds es) where
  go := fun i H k l => by
    rw [pairs_len] at l
    obtain ⟨v, e, _⟩ := q.get (n := i) (List.getElem?_eq_getElem (by omega))
    obtain ⟨u, e2, _⟩ := q2.get (n := i) (List.getElem?_eq_getElem (by omega))
    exact ⟨xs, ys, v, u, rd_keptT r n k, rd_keptT r2 n2 k, e, e2⟩
  stop := fun i H k l => ⟨xs, ys, rd_keptT r n k, rd_keptT r2 n2 k, by rw [pairs_len] at l; rw [q.length, q2.length]; omega⟩
  yld := fun i H W x H' d k sb wok e y => by
    obtain ⟨T, v, u, rfl, nT, rfl, y1, y2⟩ := y
    obtain ⟨d1, d2, e1, e2, rfl⟩ := pairs_at _ _ _ _ e
    obtain ⟨v', ev, rv⟩ := q.get e1
    obtain ⟨u', eu, ru⟩ := q2.get e2
    have ex := y1 xs (rd_keptT r n k)
    rw [ev] at ex
    cases ex
    have ey := y2 ys (rd_keptT r2 n2 k)
    rw [eu] at ey
    cases ey
    have wT : ¬ W T := fun z => by
      obtain ⟨o, eo⟩ := wok T z
      rw [nT] at eo; cases eo
    have rr : RpA W H [v, u] [d1, d2] := .cons (Rp.mono (kept_of hM k) sb d1 _ rv) (.cons (Rp.mono (kept_of hM k) sb d2 _ ru) .nil)
    exact ⟨same_upd nT, .tup wT (by show 2 ≤ sizeLine; decide) (.inl upd_same) (rr.new nT)⟩
end

/-- what is walked, read -/
def tIt (T : Th) (rng : Bool) (f : Gv → Rs (List D × List Nat)) : TI := fun σ H R => ∃ W g, EOk W H σ g ∧ Pst T W σ g H (fun p g' W' H' => LockOk g' p.2 → (rng = false → p.1.length ≤ sizeLine) → ∀ J, Feeds W' H' (MutA σ (lockL g' p.2)) J p.1 → R J H') (f g)
theorem lockL_mut {σ : L2.St} : ∀ (is : List Nat) {g : Gv} {b : Addr}, MutA σ (lockL g is) b → MutA σ g b
  | [], _, _, m => m
  | i :: is, g, b, m => by
    obtain ⟨j, t, ej, hm, hb⟩ := lockL_mut is m
    unfold lock at ej
    split at ej
    · rcases get_set ej with ⟨rfl, es⟩ | ⟨n, ej⟩
      · subst es; cases hm
      · exact ⟨j, t, ej, hm, hb⟩
    · exact ⟨j, t, ej, hm, hb⟩
theorem lock_get {g : Gv} {i j : Nat} {t : Slot} (h : (lock g i)[j]? = some t) : ∃ u, g[j]? = some u ∧ u.get = t.get ∧ u.hold = t.hold ∧ ((∃ d, u = .io d) ↔ ∃ d, t = .io d) := by
  unfold lock at h
  split at h
  · rename_i d e
    rcases get_set h with ⟨rfl, es⟩ | ⟨n, h⟩
    · subst es
      exact ⟨_, e, rfl, rfl, ⟨(fun ⟨_, z⟩ => nomatch z), (fun ⟨_, z⟩ => nomatch z)⟩⟩
    · exact ⟨t, h, rfl, rfl, Iff.rfl⟩
  · exact ⟨t, h, rfl, rfl, Iff.rfl⟩
theorem lock_len (g : Gv) (i : Nat) : (lock g i).length = g.length := by
  unfold lock
  split
  · simp
  · rfl
theorem lockL_get : ∀ (is : List Nat) {g : Gv} {j : Nat} {t : Slot}, (lockL g is)[j]? = some t → ∃ u, g[j]? = some u ∧ u.get = t.get ∧ u.hold = t.hold ∧ ((∃ d, u = .io d) ↔ ∃ d, t = .io d)
  | [], _, _, t, h => ⟨t, h, rfl, rfl, Iff.rfl⟩
  | i :: is, g, j, t, h => by
    obtain ⟨u, eu, a1, a2, a3⟩ := lockL_get is h
    obtain ⟨v, ev, b1, b2, b3⟩ := lock_get eu
    exact ⟨v, ev, b1.trans a1, b2.trans a2, b3.trans a3⟩
theorem lockL_len : ∀ (is : List Nat) (g : Gv), (lockL g is).length = g.length
  | [], _ => rfl
  | i :: is, g => (lockL_len is (lock g i)).trans (lock_len g i)
theorem lockL_held {σ : L2.St} {is : List Nat} {g : Gv} {b : Addr} (h : HeldA σ (lockL g is) b) : HeldA σ g b := by
  obtain ⟨j, t, d, e, hd, hb⟩ := h
  obtain ⟨u, eu, _, hh, _⟩ := lockL_get is e
  exact ⟨j, u, d, eu, hh.trans hd, hb⟩
theorem lockL_look (is : List Nat) (g : Gv) (j : Nat) : look (lockL g is) j = look g j := by
  unfold look
  cases e : (lockL g is)[j]? with
  | none =>
    have l := List.getElem?_eq_none_iff.mp e
    rw [lockL_len] at l
    rw [List.getElem?_eq_none_iff.mpr l]
  | some t =>
    obtain ⟨u, eu, h, _⟩ := lockL_get is e
    rw [eu]
    exact h.symm
theorem lockL_res (is : List Nat) (g : Gv) (o : Op) : o.res (lockL g is) = o.res g := by
  cases o with
  | val d own => rfl
  | slot j => exact lockL_look is g j
theorem lockL_walk {is : List Nat} {g : Gv} {o : Op} (h : walkOk g o = true) : walkOk (lockL g is) o = true := by
  cases o with
  | val d own => rfl
  | slot j =>
    unfold walkOk at h ⊢
    simp only at h ⊢
    cases e : (lockL g is)[j]? with
    | none => rfl
    | some t =>
      obtain ⟨u, eu, _, _, hi⟩ := lockL_get is e
      cases t with
      | io d =>
        obtain ⟨d', ed⟩ := hi.mpr ⟨d, rfl⟩
        subst ed
        rw [eu] at h
        exact h
      | _ => rfl
theorem rp_out {W : Addr → Prop} {H : Hp} {a : Addr} {d : D} (r : Rp W H (.ref a) d) (nd : ∀ ds, d ≠ .dict ds) : ¬ W a := by
  cases r <;> first | assumption | exact absurd rfl (nd _)
/-- how an operand that is walked stands -/
def Wk (W : Addr → Prop) (H : Hp) (σ : L2.St) (g : Gv) (v : V) : Op → Prop
  | .val d true => ∃ a, v = .ref a ∧ ¬ HeldA σ g a ∧ Own W H a d
  | .val d false => Rp W H v d
  | .slot i => σ[i]? = some (some v)
theorem ORp.wk {W1 : Addr → Prop} {σ : L2.St} {g g1 : Gv} {H H1 : Hp} {v : V} {o : Op} (r : ORp σ g H W1 g1 H1 v o) : Wk W1 H1 σ g1 v o := by
  cases o with
  | slot i => exact r
  | val d own =>
    cases own with
    | false => exact r
    | true =>
      obtain ⟨a, e, _, q, n, _⟩ := r
      exact ⟨a, e, n, q⟩
theorem Wk.rb {W1 : Addr → Prop} {σ : L2.St} {g1 : Gv} {H1 : Hp} {v : V} {o : Op} {d : D} (r : Wk W1 H1 σ g1 v o) (G : EOk W1 H1 σ g1) (h : o.res g1 = some d) : RB W1 H1 v d := by
  cases o with
  | slot i => exact look_rb G h r
  | val e own =>
    have h' : some e = some d := h
    cases h'
    cases own with
    | false => exact .inl r
    | true =>
      obtain ⟨a, ea, _, q⟩ := r
      exact .inr ⟨a, ea, q⟩
theorem walk_still {W1 : Addr → Prop} {σ : L2.St} {g1 : Gv} {H1 : Hp} {a : Addr} {o : Op} {d : D} (G1 : EOk W1 H1 σ g1) (r : Wk W1 H1 σ g1 (.ref a) o) (ok : walkOk g1 o = true) (hr : o.res g1 = some d) (nd : ∀ ds, d ≠ .dict ds) : ¬ MutA σ (lockL g1 (locks g1 o)) a := fun m => by
  have m1 := lockL_mut _ m
  cases o with
  | val e own =>
    cases own with
    | true =>
      obtain ⟨b, eb, n, _⟩ := r
      cases eb
      exact n m1.held
    | false =>
      have hr' : some e = some d := hr
      cases hr'
      exact rp_out r nd (G1.mutW m1.held)
  | slot i =>
    have ei : ad σ i a := r
    have hl : look g1 i = some d := hr
    unfold look at hl
    cases e : g1[i]? with
    | none => rw [e] at hl; cases hl
    | some s =>
      obtain ⟨k, u, ek, hmk, hk⟩ := m1
      cases s with
      | un => rw [e] at hl; cases hl
      | sh x =>
        obtain ⟨v, ev, rv⟩ := G1.sh i x e
        have : (some (some (V.ref a)) : Option (Option V)) = some (some v) := ei.symm.trans ev
        cases this
        have hl' : some x = some d := by
          rw [e] at hl
          exact hl
        cases hl'
        exact rp_out rv nd (G1.mutW ⟨k, u, _, ek, (Slot.hold_of_mut hmk).choose_spec, hk⟩)
      | lk x =>
        by_cases q : k = i
        · subst q; rw [e] at ek; cases ek; cases hmk
        · exact G1.inj k i u _ a q ek e hmk ⟨x, rfl⟩ hk ei
      | io x =>
        unfold walkOk at ok
        simp only [e] at ok
        cases ok
      | ow x =>
        have e1 : locks g1 (.slot i) = [i] := by
          unfold locks
          simp only [e]
        rw [e1] at m
        obtain ⟨j, t, ej, hm, hj⟩ := m
        have ej' : (lock g1 i)[j]? = some t := ej
        unfold lock at ej'
        rw [e] at ej'
        rcases get_set ej' with ⟨rfl, es⟩ | ⟨n, ej2⟩
        · subst es; cases hm
        · exact G1.inj j i t _ a (Ne.symm n) ej2 e hm ⟨x, rfl⟩ hj ei
end TL
/-! TL13: the rules of what is walked; assignments to names. -/
namespace TL
open PySem PySem.Spec PyProof.Rows L2
variable [Plc]

theorem mutIn {W1 : Addr → Prop} {σ : L2.St} {g1 : Gv} {H1 : Hp} (G1 : EOk W1 H1 σ g1) (ls : List Nat) : ∀ b, MutA σ (lockL g1 ls) b → W1 b := fun b m => G1.mutW (lockL_mut ls m).held
theorem finSeq_ok {a : Op} {g : Gv} (h : finSeq a g ≠ .bad) : ∃ d ds, walkOk g a = true ∧ a.res g = some d ∧ items d = some ds ∧ finSeq a g = .ok (ds, locks g a) g := by
  unfold finSeq at h ⊢
  cases h0 : walkOk g a with
  | false => rw [h0] at h; exact absurd rfl h
  | true =>
    rw [h0] at h
    cases h1 : a.res g with
    | none => rw [h1] at h; exact absurd rfl h
    | some d =>
      rw [h1] at h
      cases h2 : items d with
      | none =>
        simp only [h2] at h
        exact absurd rfl h
      | some ds => exact ⟨d, ds, rfl, rfl, h2, by simp only [h2]⟩
/-- the data's kind decides what is walked -/
theorem seq_imp {K : PySem.W.Frag} {T : Th} {f : Gv → Rs Op} {σ : L2.St} {H : Hp} {R : L2.It → Hp → Prop} (h : tIt T false (fun g => (f g).bind fun a g => finSeq a g) σ H R) :
    iList K (tI T f) σ H R ∨ iTup K (tI T f) σ H R ∨ iStr (tI T f) σ H R := by
  obtain ⟨W, g, G, h⟩ := h
  have h : Pst T W σ g H _ ((f g).bind fun a g => finSeq a g) := h
  cases e : f g with
  | bad =>
    rw [e] at h
    exact h.elim
  | ex c fs g' =>
    rw [e] at h
    refine .inl ⟨W, g, G, ?_⟩
    rw [e]
    exact h
  | ok a g1 =>
    have hb := Pst.bind0 h
    have nb : finSeq a g1 ≠ .bad := fun z => by
      rw [e] at h
      have h' : Pst T W σ g H _ (finSeq a g1) := h
      rw [z] at h'
      exact h'
    obtain ⟨d, ds, e0, e1, e2, e3⟩ := finSeq_ok nb
    -- what the walker is given
    have key : ∀ (H1 : Hp) (W1 : Addr → Prop) (s1 : Stp W σ g H W1 σ g1 H1) (G1 : EOk W1 H1 σ g1), LockOk g1 (locks g1 a) → (false = false → ds.length ≤ sizeLine) → ∀ J, Feeds W1 H1 (MutA σ (lockL g1 (locks g1 a))) J ds → R J H1 := fun H1 W1 s1 G1 => by
      have h2 := (Pst.bind G.wok h)
      rw [e] at h2
      have h3 : Pst T W1 σ g1 H1 _ (finSeq a g1) := h2 H1 W1 s1 G1
      rw [e3] at h3
      exact h3 H1 W1 Stp.refl G1
    cases d with
    | list xs =>
      cases e2
      refine .inl ⟨W, g, G, ?_⟩
      rw [e]
      intro H1 W1 s1 G1 v r
      obtain ⟨b, vs, rfl, rb, lb, qb⟩ := (r.opd.rb G1 e1).lst
      have nm := walk_still G1 r.wk e0 e1 (fun _ z => nomatch z)
      exact ⟨b, rfl, ⟨vs, .inl rb⟩, key H1 W1 s1 G1 (locks_ok _ _) (fun _ => by rw [← qb.length]; exact lb) _ (feeds_list (mutIn G1 _) rb nm qb)⟩
    | tuple xs =>
      cases e2
      refine .inr (.inl ⟨W, g, G, ?_⟩)
      rw [e]
      intro H1 W1 s1 G1 v r
      obtain ⟨b, vs, rfl, rb, lb, qb, _⟩ := (r.opd.rb G1 e1).tup
      have nm := walk_still G1 r.wk e0 e1 (fun _ z => nomatch z)
      exact ⟨b, rfl, ⟨vs, .inl rb⟩, key H1 W1 s1 G1 (locks_ok _ _) (fun _ => by rw [← qb.length]; exact lb) _ (feeds_tup (mutIn G1 _) rb nm qb)⟩
    | str x =>
      have e2' : (if x.length ≤ sizeLine then some (signs x) else none) = some ds := e2
      by_cases l : x.length ≤ sizeLine
      · rw [if_pos l] at e2'
        cases e2'
        refine .inr (.inr ⟨W, g, G, ?_⟩)
        rw [e]
        intro H1 W1 s1 G1 v r
        exact ⟨x, (r.opd.rb G1 e1).str, key H1 W1 s1 G1 (locks_ok _ _) (fun _ => by unfold signs; rw [List.length_map]; exact l) _ (feeds_str x)⟩
      · rw [if_neg l] at e2'; cases e2'
    | none => cases e2
    | bool _ => cases e2
    | int _ => cases e2
    | dict _ => cases e2
theorem PI.or {X : Cx} {tg e : Expr} {w1 w2 : TI} (h1 : PI X tg e w1) (h2 : PI X tg e w2) : PI X tg e (fun σ H R => w1 σ H R ∨ w2 σ H R) :=
  ⟨fun pins s σ H R I h => h.elim (h1.run pins s σ H R I) (h2.run pins s σ H R I)⟩
omit [Plc] in
theorem PI.imp {X : Cx} {tg e : Expr} {w1 w2 : TI} (h : PI X tg e w1) (m : ∀ σ H R, w2 σ H R → w1 σ H R) : PI X tg e w2 := ⟨fun pins s σ H R I q => h.run pins s σ H R I (m σ H R q)⟩
theorem pi_seqI {X : Cx} {tg e : Expr} {T : Th} {f : Gv → Rs Op} (h : PE X e (tI T f)) : PI X tg e (tIt T false fun g => (f g).bind fun a g => finSeq a g) :=
  PI.imp (PI.or (pi_list h) (PI.or (pi_tup h) (pi_str h))) fun _ _ _ q => seq_imp q

theorem finR1_ok {a : Op} {g : Gv} (h : finR1 a g ≠ .bad) : ∃ n, a.res g = some (.int n) ∧ rngOk n = true ∧ finR1 a g = .ok (rngL 0 n.toNat, []) g := by
  unfold finR1 at h ⊢
  split at h
  · rename_i n e
    by_cases l : rngOk n = true
    · exact ⟨n, e, l, by simp only [e, if_pos l]⟩
    · rw [if_neg l] at h; exact absurd rfl h
  · exact absurd rfl h
theorem finR2_ok {a b : Op} {g : Gv} (h : finR2 a b g ≠ .bad) : ∃ i j, a.res g = some (.int i) ∧ b.res g = some (.int j) ∧ rngOk i = true ∧ rngOk j = true ∧ finR2 a b g = .ok (rngL i (j - i).toNat, []) g := by
  unfold finR2 at h ⊢
  split at h
  · rename_i i j e e2
    by_cases l : (rngOk i && rngOk j) = true
    · obtain ⟨l1, l2⟩ := Bool.and_eq_true_iff.mp l
      exact ⟨i, j, e, e2, l1, l2, by simp only [e, e2, if_pos l]⟩
    · rw [if_neg l] at h; exact absurd rfl h
  · exact absurd rfl h
theorem rng_b {n : Int} (h : rngOk n = true) : -(2 ^ 62) ≤ n ∧ n < 2 ^ 62 := by
  unfold rngOk at h
  simpa using h
theorem r1_imp {T : Th} {f : Gv → Rs Op} {σ : L2.St} {H : Hp} {R : L2.It → Hp → Prop} (h : tIt T true (fun g => (f g).bind fun a g => finR1 a g) σ H R) : iRng1 (tCons (tI T f) tNil) σ H R := by
  obtain ⟨W, g, G, h⟩ := h
  refine ⟨W, g, G, (Pst.bind G.wok h).mono fun a g1 W1 H1 _ s1 G1 h1 v r => ?_⟩
  obtain ⟨n, e1, e2, e3⟩ := finR1_ok h1.nb
  rw [e3] at h1
  have q := h1 H1 W1 Stp.refl G1 trivial (fun z => nomatch z)
  obtain ⟨b1, b2⟩ := rng_b e2
  exact ⟨n, by rw [(r.opd.rb G1 e1).int], b1, b2, q _ (feeds_rng 0 n.toNat)⟩
theorem r2_imp {T : Th} {fa fb : Gv → Rs Op} {σ : L2.St} {H : Hp} {R : L2.It → Hp → Prop} (h : tIt T true (fun g => (fa g).bind fun a g => (fb g).bind fun b g => finR2 a b g) σ H R) : iRng2 (tCons (tI T fa) (tCons (tI T fb) tNil)) σ H R := by
  obtain ⟨W, g, G, h⟩ := h
  refine ⟨W, g, G, (Pst.bind G.wok h).mono fun a g1 W1 H1 _ s1 G1 h1 v r => ⟨W1, g1, G1, (Pst.bind G1.wok h1).mono fun b g2 W2 H2 _ s2 G2 h2 u r' => ?_⟩⟩
  obtain ⟨i, j, e1, e2, l1, l2, e3⟩ := finR2_ok h2.nb
  rw [e3] at h2
  have q := h2 H2 W2 Stp.refl G2 trivial (fun z => nomatch z)
  obtain ⟨b1, b2⟩ := rng_b l1
  obtain ⟨b3, b4⟩ := rng_b l2
  exact ⟨i, j, by rw [((r.later G1 s2).rb G2 e1).int, (r'.opd.rb G2 e2).int], ⟨b1, b2, b3, b4⟩, q _ (feeds_rng i _)⟩
theorem feeds_dwn {W0 M : Addr → Prop} {H0 : Hp} (lo : Int) (n : Nat) : Feeds W0 H0 M (Itc lo (-1) n) (dwnL lo n) where
  go := fun i H k l => by
    show i < n
    simpa [dwnL] using l
  stop := fun i H k l => by
    show n ≤ i
    simpa [dwnL] using l
  yld := fun i H W v H' d k sb wok e y => by
    obtain ⟨rfl, rfl⟩ := y
    have l : i < n := by
      have := (List.getElem?_eq_some_iff.mp e).1
      simpa [dwnL] using this
    have e2 : (dwnL lo n)[i]? = some (.int (lo + (i : Nat) * (-1))) := by
      unfold dwnL
      rw [List.getElem?_map, List.getElem?_range l]
      rfl
    rw [e] at e2
    cases e2
    exact ⟨Same.refl _, .int _⟩
theorem finR3_ok {a b c : Op} {g : Gv} (h : finR3 a b c g ≠ .bad) : ∃ i j, a.res g = some (.int i) ∧ b.res g = some (.int j) ∧ c.res g = some (.int (-1)) ∧ rngOk i = true ∧ rngOk j = true ∧ finR3 a b c g = .ok (dwnL i (i - j).toNat, []) g := by
  unfold finR3 at h ⊢
  split at h
  · rename_i i j k e e2 e5
    by_cases l : (rngOk i && rngOk j && decide (k = -1)) = true
    · obtain ⟨l0, l3⟩ := Bool.and_eq_true_iff.mp l
      obtain ⟨l1, l2⟩ := Bool.and_eq_true_iff.mp l0
      have l3 := of_decide_eq_true l3
      subst l3
      exact ⟨i, j, e, e2, e5, l1, l2, by simp only [e, e2, e5]; exact if_pos l⟩
    · rw [if_neg l] at h; exact absurd rfl h
  · exact absurd rfl h
theorem r3_imp {T : Th} {fa fb fc : Gv → Rs Op} {σ : L2.St} {H : Hp} {R : L2.It → Hp → Prop} (h : tIt T true (fun g => (fa g).bind fun a g => (fb g).bind fun b g => (fc g).bind fun c g => finR3 a b c g) σ H R) : iRng3 (tCons (tI T fa) (tCons (tI T fb) (tCons (tI T fc) tNil))) σ H R := by
  obtain ⟨W, g, G, h⟩ := h
  refine ⟨W, g, G, (Pst.bind G.wok h).mono fun a g1 W1 H1 _ s1 G1 h1 v r => ⟨W1, g1, G1, (Pst.bind G1.wok h1).mono fun b g2 W2 H2 _ s2 G2 h2 u r' => ⟨W2, g2, G2, (Pst.bind G2.wok h2).mono fun c g3 W3 H3 _ s3 G3 h3 z r'' => ?_⟩⟩⟩
  obtain ⟨i, j, e1, e2, e5, l1, l2, e3⟩ := finR3_ok h3.nb
  rw [e3] at h3
  have q := h3 H3 W3 Stp.refl G3 trivial (fun z => nomatch z)
  obtain ⟨b1, b2⟩ := rng_b l1
  obtain ⟨b3, b4⟩ := rng_b l2
  exact ⟨i, j, -1, (i - j).toNat, by rw [((r.later G1 (s2.trans G1.wok s3)).rb G3 e1).int, ((r'.later G2 s3).rb G3 e2).int, (r''.opd.rb G3 e5).int], RgC.neg b1 b2 b3 b4, q _ (feeds_dwn i _)⟩
theorem finEnum_ok {a : Op} {g : Gv} (h : finEnum a g ≠ .bad) : ∃ d ds, walkOk g a = true ∧ a.res g = some d ∧ finEnum a g = .ok (ds, locks g a) g ∧ ((∃ xs, d = .list xs ∧ ds = numbered 0 xs) ∨ ∃ z : Str, d = .str z ∧ z.length ≤ sizeLine ∧ ds = numbered 0 (signs z)) := by
  unfold finEnum at h ⊢
  split at h
  · rename_i ds e1 e2
    exact ⟨_, _, e1, e2, by simp only [e1, e2], .inl ⟨ds, rfl, rfl⟩⟩
  · rename_i z e1 e2
    by_cases l : z.length ≤ sizeLine
    · exact ⟨_, _, e1, e2, by simp only [e1, e2, if_pos l], .inr ⟨z, rfl, l, rfl⟩⟩
    · rw [if_neg l] at h; exact absurd rfl h
  · exact absurd rfl h
theorem enum_imp {K : PySem.W.Frag} {T : Th} {f : Gv → Rs Op} {σ : L2.St} {H : Hp} {R : L2.It → Hp → Prop} (h : tIt T false (fun g => (f g).bind fun a g => finEnum a g) σ H R) :
    iEnum K (tCons (tI T f) tNil) σ H R ∨ iEnumS (tCons (tI T f) tNil) σ H R := by
  obtain ⟨W, g, G, h⟩ := h
  have h : Pst T W σ g H _ ((f g).bind fun a g => finEnum a g) := h
  cases e : f g with
  | bad =>
    rw [e] at h
    exact h.elim
  | ex c fs g' =>
    rw [e] at h
    refine .inl ⟨W, g, G, ?_⟩
    rw [e]
    exact h
  | ok a g1 =>
    have nb : finEnum a g1 ≠ .bad := fun z => by
      rw [e] at h
      have h' : Pst T W σ g H _ (finEnum a g1) := h
      rw [z] at h'
      exact h'
    obtain ⟨d, ds, e0, e1, e3, kind⟩ := finEnum_ok nb
    have key : ∀ (H1 : Hp) (W1 : Addr → Prop) (s1 : Stp W σ g H W1 σ g1 H1) (G1 : EOk W1 H1 σ g1), LockOk g1 (locks g1 a) → (false = false → ds.length ≤ sizeLine) → ∀ J, Feeds W1 H1 (MutA σ (lockL g1 (locks g1 a))) J ds → R J H1 := fun H1 W1 s1 G1 => by
      have h2 := (Pst.bind G.wok h)
      rw [e] at h2
      have h3 : Pst T W1 σ g1 H1 _ (finEnum a g1) := h2 H1 W1 s1 G1
      rw [e3] at h3
      exact h3 H1 W1 Stp.refl G1
    rcases kind with ⟨xs, rfl, rfl⟩ | ⟨z, rfl, lz, rfl⟩
    · refine .inl ⟨W, g, G, ?_⟩
      rw [e]
      intro H1 W1 s1 G1 v r
      obtain ⟨b, vs, rfl, rb, lb, qb⟩ := (r.opd.rb G1 e1).lst
      have nm := walk_still G1 r.wk e0 e1 (fun _ z => nomatch z)
      exact ⟨b, vs, rfl, .inl rb, key H1 W1 s1 G1 (locks_ok _ _) (fun _ => by rw [numbered_len, ← qb.length]; exact lb) _ (feeds_enum (mutIn G1 _) rb nm qb)⟩
    · refine .inr ⟨W, g, G, ?_⟩
      rw [e]
      intro H1 W1 s1 G1 v r
      have ex := (r.opd.rb G1 e1).str
      subst ex
      exact ⟨z, rfl, key H1 W1 s1 G1 (locks_ok _ _) (fun _ => by rw [numbered_len]; unfold signs; rw [List.length_map]; exact lz) _ (feeds_enumS z)⟩
theorem Wk.fwd {W1 W2 : Addr → Prop} {σ : L2.St} {g g1 g2 : Gv} {H H1 H2 : Hp} {v : V} {o : Op} (r : ORp σ g H W1 g1 H1 v o) (G1 : EOk W1 H1 σ g1) (s : Stp W1 σ g1 H1 W2 σ g2 H2) : Wk W2 H2 σ g2 v o := (r.fwd G1 s).wk
theorem Wk.lock {W : Addr → Prop} {σ : L2.St} {g : Gv} {H : Hp} {v : V} {o : Op} (r : Wk W H σ g v o) (is : List Nat) : Wk W H σ (lockL g is) v o := by
  cases o with
  | slot i => exact r
  | val d own =>
    cases own with
    | false => exact r
    | true =>
      obtain ⟨a, e, n, q⟩ := r
      exact ⟨a, e, fun z => n (lockL_held z), q⟩
theorem finZip_ok {a b : Op} {g : Gv} (h : finZip a b g ≠ .bad) : walkOk g a = true ∧ walkOk g b = true ∧ ((∃ xs ys, a.res g = some (.list xs) ∧ b.res g = some (.list ys) ∧ finZip a b g = .ok (pairs xs ys, locks g a ++ locks (lockL g (locks g a)) b) g) ∨
    (∃ xs ys, a.res g = some (.tuple xs) ∧ b.res g = some (.tuple ys) ∧ finZip a b g = .ok (pairs xs ys, []) g)) := by
  unfold finZip at h ⊢
  split at h
  · rename_i xs ys e1 e2 e3
    obtain ⟨h1, h2⟩ := Bool.and_eq_true_iff.mp e1
    exact ⟨h1, h2, .inl ⟨xs, ys, e2, e3, by simp only [e1, e2, e3]⟩⟩
  · rename_i xs ys e1 e2 e3
    obtain ⟨h1, h2⟩ := Bool.and_eq_true_iff.mp e1
    exact ⟨h1, h2, .inr ⟨xs, ys, e2, e3, by simp only [e1, e2, e3]⟩⟩
  · exact absurd rfl h
theorem zip_imp {K : PySem.W.Frag} {T : Th} {fa fb : Gv → Rs Op} {σ : L2.St} {H : Hp} {R : L2.It → Hp → Prop} (h : tIt T false (fun g => (fa g).bind fun a g => (fb g).bind fun b g => finZip a b g) σ H R) :
    RZ.iZipA K (tCons (tI T fa) (tCons (tI T fb) tNil)) σ H R := by
  obtain ⟨W, g, G, h⟩ := h
  refine ⟨W, g, G, (Pst.bind G.wok h).mono fun a g1 W1 H1 _ s1 G1 h1 v r => ⟨W1, g1, G1, (Pst.bind G1.wok h1).mono fun b g2 W2 H2 _ s2 G2 h2 u r' => ?_⟩⟩
  obtain ⟨w1, w2, c⟩ := finZip_ok h2.nb
  have ka := Wk.fwd r G1 s2
  have kb := r'.wk
  rcases c with ⟨xs, ys, e1, e2, e3⟩ | ⟨xs, ys, e1, e2, e3⟩
  · rw [e3] at h2
    obtain ⟨p, vs, rfl, rp, lp, qp⟩ := (ka.rb G2 e1).lst
    obtain ⟨p', us, rfl, rp', lp', qp'⟩ := (kb.rb G2 e2).lst
    have q := h2 H2 W2 Stp.refl G2 (lockOk_app (locks_ok _ _) (locks_ok _ _)) (fun _ => by rw [pairs_len, ← qp.length]; omega)
    have n1 := walk_still G2 ka w1 e1 (fun _ z => nomatch z)
    have n2 := walk_still (lockL_eok (locks g2 a) G2) (kb.lock (locks g2 a)) (lockL_walk w2) ((lockL_res (locks g2 a) g2 b).trans e2) (fun _ z => nomatch z)
    have q' := q (Itz K p p')
    simp only [lockL_app] at q'
    refine ⟨p, p', vs, us, rfl, .inl ⟨.inl rp, .inl rp', q' ?_⟩⟩
    refine feeds_zip (fun b m => ?_) rp (fun m => n1 (lockL_mut _ m)) qp rp' n2 qp'
    exact G2.mutW (lockL_mut _ (lockL_mut _ m)).held
  · rw [e3] at h2
    obtain ⟨p, vs, rfl, rp, lp, qp, np⟩ := (ka.rb G2 e1).tup
    obtain ⟨p', us, rfl, rp', lp', qp', np'⟩ := (kb.rb G2 e2).tup
    have q := h2 H2 W2 Stp.refl G2 trivial (fun _ => by rw [pairs_len, ← qp.length]; omega)
    exact ⟨p, p', vs, us, rfl, .inr ⟨.inl rp, .inl rp', q _ (feeds_zipT (mutIn G2 _) rp (fun m => np (mutIn G2 _ _ m)) qp rp' (fun m => np' (mutIn G2 _ _ m)) qp')⟩⟩

/-! ### assignments to names -/
theorem put_ok {g g' : Gv} {i : Nat} {s : Slot} (h : put g i s = some g') : g' = g.set i s ∧ ∃ t, g[i]? = some t ∧ (∀ d, t ≠ .lk d) ∧ ∀ d, t ≠ .io d := by
  unfold put at h
  cases e : g[i]? with
  | none => rw [e] at h; cases h
  | some t =>
    rw [e] at h
    cases t with
    | lk d => cases h
    | io d => cases h
    | un =>
      have h' : some (g.set i s) = some g' := h
      cases h'
      exact ⟨rfl, .un, rfl, (fun d z => nomatch z), (fun d z => nomatch z)⟩
    | sh x =>
      have h' : some (g.set i s) = some g' := h
      cases h'
      exact ⟨rfl, .sh x, rfl, (fun d z => nomatch z), (fun d z => nomatch z)⟩
    | ow x =>
      have h' : some (g.set i s) = some g' := h
      cases h'
      exact ⟨rfl, .ow x, rfl, (fun d z => nomatch z), (fun d z => nomatch z)⟩
section
variable {W W1 : Addr → Prop} {σ : L2.St} {g g1 g' : Gv} {H H1 : Hp}
theorem ad_set {σ : L2.St} {i j : Nat} {v : V} {a : Addr} (n : i ≠ j) : ad (σ.set i (some v)) j a ↔ ad σ j a := by
  unfold ad
  rw [List.getElem?_set_ne n]
/-- the step of an assignment; s: shared data, or a list of one's own at a -/
theorem put_stp (G : EOk W H σ g) (G1 : EOk W1 H1 σ g1) (s1 : Stp W σ g H W1 σ g1 H1) {i : Nat} {v : V} {s : Slot} (h : put g1 i s = some g')
    (hs : (∃ d, s = .sh d ∧ Rp W1 H1 v d) ∨ (∃ d a, s = .ow d ∧ v = .ref a ∧ W1 a ∧ Own W1 H1 a d ∧ ¬ HeldA σ g1 a ∧ (H a = none ∨ MutA σ g a))) :
    EOk W1 H1 (σ.set i (some v)) g' ∧ Stp W σ g H W1 (σ.set i (some v)) g' H1 := by
  obtain ⟨rfl, t, et, nl, ni⟩ := put_ok h
  have li : i < σ.length := by
    rw [← G1.len]
    exact (List.getElem?_eq_some_iff.mp et).1
  have here : (σ.set i (some v))[i]? = some (some v) := List.getElem?_set_self li
  -- a held place is another one, or the new list
  have other : ∀ (j : Nat) (u : Slot) (d : D), (g1.set i s)[j]? = some u → u.hold = some d → (i ≠ j ∧ g1[j]? = some u) ∨ (i = j ∧ u = s ∧ ∃ a, s = .ow d ∧ v = .ref a ∧ W1 a ∧ Own W1 H1 a d ∧ ¬ HeldA σ g1 a ∧ (H a = none ∨ MutA σ g a)) := fun j u d e hd => by
    rcases get_set e with ⟨rfl, es⟩ | ⟨n, e⟩
    · subst es
      rcases hs with ⟨d', rfl, _⟩ | ⟨d', a, rfl, z⟩
      · cases hd
      · cases hd
        exact .inr ⟨rfl, rfl, a, rfl, z⟩
    · exact .inl ⟨n, e⟩
  refine ⟨⟨by rw [List.length_set, List.length_set]; exact G1.len, G1.wok, fun j d e => ?_, fun j u d e hd => ?_, fun j k u w a n e1 e2 m hd ha hb => ?_⟩, ⟨s1.keep, s1.there, s1.w, s1.wb, fun b m => ?_, fun j d e => ?_, fun j d e => ?_, fun j d e => ?_⟩⟩
  · rcases get_set e with ⟨rfl, es⟩ | ⟨n, e⟩
    · rcases hs with ⟨d', rfl, r⟩ | ⟨d', a, rfl, _⟩
      · cases es
        exact ⟨v, here, r⟩
      · cases es
    · obtain ⟨u, eu, r⟩ := G1.sh j d e
      exact ⟨u, by rw [List.getElem?_set_ne n]; exact eu, r⟩
  · rcases other j u d e hd with ⟨n, e⟩ | ⟨rfl, _, a, _, rfl, wa, oa, _⟩
    · obtain ⟨a, ha, wa, oa⟩ := G1.hd j u d e hd
      exact ⟨a, (ad_set n).mpr ha, wa, oa⟩
    · exact ⟨a, here, wa, oa⟩
  · obtain ⟨du, hdu⟩ := Slot.hold_of_mut m
    obtain ⟨dw, hdw⟩ := hd
    rcases other j u du e1 hdu with ⟨n1, e1⟩ | ⟨rfl, _, b, _, rfl, _, _, nh, _⟩
    · rcases other k w dw e2 hdw with ⟨n2, e2⟩ | ⟨rfl, _, b, _, rfl, _, _, nh, _⟩
      · exact G1.inj j k u w a n e1 e2 m ⟨dw, hdw⟩ ((ad_set n1).mp ha) ((ad_set n2).mp hb)
      · have : (some (some (V.ref b)) : Option (Option V)) = some (some (.ref a)) := here.symm.trans hb
        cases this
        exact nh ⟨j, u, du, e1, hdu, (ad_set n1).mp ha⟩
    · have : (some (some (V.ref b)) : Option (Option V)) = some (some (.ref a)) := here.symm.trans ha
      cases this
      rcases other k w dw e2 hdw with ⟨n2, e2⟩ | ⟨rfl, _⟩
      · exact nh ⟨k, w, dw, e2, hdw, (ad_set n2).mp hb⟩
      · exact n rfl
  · obtain ⟨j, u, e, m, hb⟩ := m
    obtain ⟨d, hd⟩ := Slot.hold_of_mut m
    rcases other j u d e hd with ⟨n, e⟩ | ⟨rfl, _, a, _, rfl, _, _, _, f⟩
    · exact s1.ob b ⟨j, u, e, m, (ad_set n).mp hb⟩
    · have : (some (some (V.ref a)) : Option (Option V)) = some (some (.ref b)) := here.symm.trans hb
      cases this
      exact f.elim .inr .inl
  · obtain ⟨e1, z⟩ := s1.lf j d e
    have n : i ≠ j := fun q => nl d (Option.some.inj (et.symm.trans (by rw [q]; exact e1)))
    exact ⟨by rw [List.getElem?_set_ne n]; exact e1, by rw [List.getElem?_set_ne n]⟩
  · rcases get_set e with ⟨rfl, es⟩ | ⟨n, e⟩
    · rcases hs with ⟨d', rfl, _⟩ | ⟨d', a, rfl, _⟩ <;> cases es
    · exact s1.lb j d e
  · obtain ⟨⟨d1, e1⟩, z⟩ := s1.fx j d e
    have n : i ≠ j := fun q => ni d1 (Option.some.inj (et.symm.trans (by rw [q]; exact e1)))
    exact ⟨⟨d1, by rw [List.getElem?_set_ne n]; exact e1⟩, by rw [List.getElem?_set_ne n]⟩
/-- the step of an assignment; s: shared data, or a list of one's own at a -/
theorem put_stp2 {σc : L2.St} (G : EOk W H σ g) (G1 : EOk W1 H1 σc g1) (s1 : Stp W σ g H W1 σc g1 H1) {i : Nat} {v : V} {s : Slot} (h : put g1 i s = some g')
    (hs : (∃ d, s = .sh d ∧ Rp W1 H1 v d) ∨ (∃ d a, s = .ow d ∧ v = .ref a ∧ W1 a ∧ Own W1 H1 a d ∧ ¬ HeldA σc g1 a ∧ (H a = none ∨ MutA σ g a))) :
    EOk W1 H1 (σc.set i (some v)) g' ∧ Stp W σ g H W1 (σc.set i (some v)) g' H1 := by
  obtain ⟨rfl, t, et, nl, ni⟩ := put_ok h
  have li : i < σc.length := by
    rw [← G1.len]
    exact (List.getElem?_eq_some_iff.mp et).1
  have here : (σc.set i (some v))[i]? = some (some v) := List.getElem?_set_self li
  -- a held place is another one, or the new list
  have other : ∀ (j : Nat) (u : Slot) (d : D), (g1.set i s)[j]? = some u → u.hold = some d → (i ≠ j ∧ g1[j]? = some u) ∨ (i = j ∧ u = s ∧ ∃ a, s = .ow d ∧ v = .ref a ∧ W1 a ∧ Own W1 H1 a d ∧ ¬ HeldA σc g1 a ∧ (H a = none ∨ MutA σ g a)) := fun j u d e hd => by
    rcases get_set e with ⟨rfl, es⟩ | ⟨n, e⟩
    · subst es
      rcases hs with ⟨d', rfl, _⟩ | ⟨d', a, rfl, z⟩
      · cases hd
      · cases hd
        exact .inr ⟨rfl, rfl, a, rfl, z⟩
    · exact .inl ⟨n, e⟩
  refine ⟨⟨by rw [List.length_set, List.length_set]; exact G1.len, G1.wok, fun j d e => ?_, fun j u d e hd => ?_, fun j k u w a n e1 e2 m hd ha hb => ?_⟩, ⟨s1.keep, s1.there, s1.w, s1.wb, fun b m => ?_, fun j d e => ?_, fun j d e => ?_, fun j d e => ?_⟩⟩
  · rcases get_set e with ⟨rfl, es⟩ | ⟨n, e⟩
    · rcases hs with ⟨d', rfl, r⟩ | ⟨d', a, rfl, _⟩
      · cases es
        exact ⟨v, here, r⟩
      · cases es
    · obtain ⟨u, eu, r⟩ := G1.sh j d e
      exact ⟨u, by rw [List.getElem?_set_ne n]; exact eu, r⟩
  · rcases other j u d e hd with ⟨n, e⟩ | ⟨rfl, _, a, _, rfl, wa, oa, _⟩
    · obtain ⟨a, ha, wa, oa⟩ := G1.hd j u d e hd
      exact ⟨a, (ad_set n).mpr ha, wa, oa⟩
    · exact ⟨a, here, wa, oa⟩
  · obtain ⟨du, hdu⟩ := Slot.hold_of_mut m
    obtain ⟨dw, hdw⟩ := hd
    rcases other j u du e1 hdu with ⟨n1, e1⟩ | ⟨rfl, _, b, _, rfl, _, _, nh, _⟩
    · rcases other k w dw e2 hdw with ⟨n2, e2⟩ | ⟨rfl, _, b, _, rfl, _, _, nh, _⟩
      · exact G1.inj j k u w a n e1 e2 m ⟨dw, hdw⟩ ((ad_set n1).mp ha) ((ad_set n2).mp hb)
      · have : (some (some (V.ref b)) : Option (Option V)) = some (some (.ref a)) := here.symm.trans hb
        cases this
        exact nh ⟨j, u, du, e1, hdu, (ad_set n1).mp ha⟩
    · have : (some (some (V.ref b)) : Option (Option V)) = some (some (.ref a)) := here.symm.trans ha
      cases this
      rcases other k w dw e2 hdw with ⟨n2, e2⟩ | ⟨rfl, _⟩
      · exact nh ⟨k, w, dw, e2, hdw, (ad_set n2).mp hb⟩
      · exact n rfl
  · obtain ⟨j, u, e, m, hb⟩ := m
    obtain ⟨d, hd⟩ := Slot.hold_of_mut m
    rcases other j u d e hd with ⟨n, e⟩ | ⟨rfl, _, a, _, rfl, _, _, _, f⟩
    · exact s1.ob b ⟨j, u, e, m, (ad_set n).mp hb⟩
    · have : (some (some (V.ref a)) : Option (Option V)) = some (some (.ref b)) := here.symm.trans hb
      cases this
      exact f.elim .inr .inl
  · obtain ⟨e1, z⟩ := s1.lf j d e
    have n : i ≠ j := fun q => nl d (Option.some.inj (et.symm.trans (by rw [q]; exact e1)))
    exact ⟨by rw [List.getElem?_set_ne n]; exact e1, by rw [List.getElem?_set_ne n]; exact z⟩
  · rcases get_set e with ⟨rfl, es⟩ | ⟨n, e⟩
    · rcases hs with ⟨d', rfl, _⟩ | ⟨d', a, rfl, _⟩ <;> cases es
    · exact s1.lb j d e
  · obtain ⟨⟨d1, e1⟩, z⟩ := s1.fx j d e
    have n : i ≠ j := fun q => ni d1 (Option.some.inj (et.symm.trans (by rw [q]; exact e1)))
    exact ⟨⟨d1, by rw [List.getElem?_set_ne n]; exact e1⟩, by rw [List.getElem?_set_ne n]; exact z⟩
end

/-- a target's reading -/
def gNames : List Nat → TGs
  | [] => gNil
  | i :: is => gCons (gName i) (gNames is)
def gTL (K : PySem.W.Frag) (n : Nat) (t : TGs) : TG := fun v σ H Q => gTup K n t v σ H Q ∨ gLst K n t v σ H Q
def tgR (K : PySem.W.Frag) : Tg → TG
  | .nm i => gName i
  | .tp is => gTL K is.length (gNames is)
def Tg.names : Tg → List Nat
  | .nm i => [i]
  | .tp is => is
/-- two frames' places agree but at is -/
def OffOf (is : List Nat) (σ σ' : L2.St) : Prop := σ'.length = σ.length ∧ ∀ j, j ∉ is → σ'[j]? = σ[j]?
theorem puts_imp {W : Addr → Prop} {H : Hp} : ∀ (is : List Nat) {σ : L2.St} {g : Gv} {vs : List V} {ds : List D} {g' : Gv} {Q : L2.St → Hp → Prop}, EOk W H σ g → RpA W H vs ds → puts g is ds = some g' →
    (∀ σ', EOk W H σ' g' → Stp W σ g H W σ' g' H → OffOf is σ σ' → Q σ' H) → gNames is vs σ H Q
  | [], σ, g, vs, ds, g', Q, G, r, h, q => by
    cases ds with
    | nil =>
      have h' : some g = some g' := h
      cases h'
      cases r
      exact ⟨rfl, q σ G Stp.refl ⟨rfl, fun _ _ => rfl⟩⟩
    | cons d ds => cases h
  | i :: is, σ, g, vs, ds, g', Q, G, r, h, q => by
    cases ds with
    | nil => cases h
    | cons d ds =>
      have h' : (match put g i (.sh d) with | some g' => puts g' is ds | none => none) = some g' := h
      cases hp : put g i (.sh d) with
      | none => rw [hp] at h'; cases h'
      | some g1 =>
        rw [hp] at h'
        cases r with
        | @cons v vr _ _ r1 r2 =>
          obtain ⟨G1, s1⟩ := put_stp G G Stp.refl hp (.inl ⟨d, rfl, r1⟩)
          refine ⟨v, vr, rfl, puts_imp is G1 r2 h' fun σ' G2 s2 o => q σ' G2 (s1.trans G.wok s2) ⟨by rw [o.1, List.length_set], fun j nj => ?_⟩⟩
          simp only [List.mem_cons, not_or] at nj
          rw [o.2 j nj.2, List.getElem?_set_ne (Ne.symm nj.1)]
theorem puts_len : ∀ (is : List Nat) {g g' : Gv} {ds : List D}, puts g is ds = some g' → is.length = ds.length
  | [], _, _, [], _ => rfl
  | [], _, _, _ :: _, h => by cases h
  | _ :: _, _, _, [], h => by cases h
  | i :: is, g, g', d :: ds, h => by
    have h' : (match put g i (.sh d) with | some g' => puts g' is ds | none => none) = some g' := h
    cases hp : put g i (.sh d) with
    | none => rw [hp] at h'; cases h'
    | some g1 =>
      rw [hp] at h'
      rw [List.length_cons, List.length_cons, puts_len is h']
theorem bind_imp {K : PySem.W.Frag} {W : Addr → Prop} {H : Hp} {tg : Tg} {σ : L2.St} {g g' : Gv} {v : V} {d : D} {Q : L2.St → Hp → Prop} (G : EOk W H σ g) (r : RB W H v d) (rs : ∀ i, tg = .nm i → Rp W H v d) (h : bindTg tg d g = some g')
    (q : ∀ σ', EOk W H σ' g' → Stp W σ g H W σ' g' H → OffOf tg.names σ σ' → Q σ' H) : tgR K tg v σ H Q := by
  cases tg with
  | nm i =>
    obtain ⟨G1, s1⟩ := put_stp G G Stp.refl (show put g i (.sh d) = some g' from h) (.inl ⟨d, rfl, rs i rfl⟩)
    exact q _ G1 s1 ⟨by rw [List.length_set], fun j nj => by
      rw [List.getElem?_set_ne fun z => nj (by rw [← z]; exact List.mem_singleton.mpr rfl)]⟩
  | tp is =>
    cases d with
    | tuple ds =>
      have h' : puts g is ds = some g' := h
      obtain ⟨a, vs, rfl, ra, la, qa, _⟩ := r.tup
      exact .inl ⟨a, vs, rfl, .inl ra, by rw [qa.length, puts_len is h'], puts_imp is G qa h' q⟩
    | list ds =>
      have h' : puts g is ds = some g' := h
      obtain ⟨a, vs, rfl, ra, la, qa⟩ := r.lst
      exact .inr ⟨a, vs, rfl, .inl ra, by rw [qa.length, puts_len is h'], puts_imp is G qa h' q⟩
    | _ => cases h
end TL
/-! TL14: comprehensions. -/
namespace TL
open PySem PySem.Spec PyProof.Rows L2
variable [Plc]

def tTb (T : Th) (f : Gv → Rs Bool) : TT := fun σ H Q => ∃ W g, EOk W H σ g ∧ Pst T W σ g H (fun b g' W' H' => Q b H') (f g)

/-! ### the block's own places -/
theorem wipe_get {σ : L2.St} {j : Nat} : ∀ {vs : List Nat}, j ∉ vs → (wipe σ vs)[j]? = σ[j]?
  | [], _ => rfl
  | v :: vs, h => by
    simp only [List.mem_cons, not_or] at h
    unfold wipe
    rw [List.getElem?_set_ne (Ne.symm h.1), wipe_get h.2]
theorem wipe_in {σ : L2.St} {j : Nat} : ∀ {vs : List Nat}, j ∈ vs → ∀ x, (wipe σ vs)[j]? = some x → x = none
  | [], h, _, _ => by cases h
  | v :: vs, h, x, e => by
    unfold wipe at e
    by_cases n : v = j
    · subst n
      by_cases l : v < (wipe σ vs).length
      · rw [List.getElem?_set_self l] at e
        exact (Option.some.inj e).symm
      · rw [List.getElem?_eq_none (by rw [List.length_set]; omega)] at e
        cases e
    · rw [List.getElem?_set_ne n] at e
      rcases List.mem_cons.mp h with z | z
      · exact absurd z.symm n
      · exact wipe_in z x e
theorem wipeG_get {g : Gv} {j : Nat} : ∀ {vs : List Nat}, j ∉ vs → (wipeG g vs)[j]? = g[j]?
  | [], _ => rfl
  | v :: vs, h => by
    simp only [List.mem_cons, not_or] at h
    unfold wipeG
    rw [List.getElem?_set_ne (Ne.symm h.1), wipeG_get h.2]
theorem wipeG_in {g : Gv} {j : Nat} : ∀ {vs : List Nat}, j ∈ vs → ∀ s, (wipeG g vs)[j]? = some s → s = .un
  | [], h, _, _ => by cases h
  | v :: vs, h, s, e => by
    unfold wipeG at e
    rcases get_set e with ⟨rfl, es⟩ | ⟨n, e⟩
    · exact es
    · rcases List.mem_cons.mp h with z | z
      · exact absurd z.symm n
      · exact wipeG_in z s e
theorem wipeG_len (g : Gv) : ∀ vs : List Nat, (wipeG g vs).length = g.length
  | [] => rfl
  | v :: vs => by unfold wipeG; rw [List.length_set, wipeG_len g vs]
theorem list_ext {α : Type} {a b : List α} (h : ∀ j : Nat, a[j]? = b[j]?) : a = b := List.ext_getElem? h
theorem wipe_eq {σ σ' : L2.St} {vs : List Nat} (o : OffOf vs σ σ') : wipe σ' vs = wipe σ vs := by
  refine list_ext fun j => ?_
  by_cases h : j ∈ vs
  · by_cases l : j < σ.length
    · have l1 : j < (wipe σ vs).length := by rw [wipe_length]; exact l
      have l2 : j < (wipe σ' vs).length := by rw [wipe_length, o.1]; exact l
      have e1 := wipe_in h _ (List.getElem?_eq_getElem l1)
      have e2 := wipe_in h _ (List.getElem?_eq_getElem l2)
      rw [List.getElem?_eq_getElem l1, List.getElem?_eq_getElem l2, e1, e2]
    · rw [List.getElem?_eq_none (by rw [wipe_length, o.1]; omega), List.getElem?_eq_none (by rw [wipe_length]; omega)]
  · rw [wipe_get h, wipe_get h, o.2 j h]
theorem wipe_off (σ : L2.St) (vs : List Nat) : OffOf vs σ (wipe σ vs) := ⟨wipe_length σ vs, fun _ h => wipe_get h⟩
theorem wipe_wipe (σ : L2.St) (vs : List Nat) : wipe (wipe σ vs) vs = wipe σ vs := wipe_eq (wipe_off σ vs)
theorem wipeG_wipeG (g : Gv) (vs : List Nat) : wipeG (wipeG g vs) vs = wipeG g vs := by
  refine list_ext fun j => ?_
  by_cases h : j ∈ vs
  · by_cases l : j < g.length
    · have l1 : j < (wipeG g vs).length := by rw [wipeG_len]; exact l
      have l2 : j < (wipeG (wipeG g vs) vs).length := by rw [wipeG_len]; exact l1
      have e1 := wipeG_in h _ (List.getElem?_eq_getElem l1)
      have e2 := wipeG_in h _ (List.getElem?_eq_getElem l2)
      rw [List.getElem?_eq_getElem l1, List.getElem?_eq_getElem l2, e1, e2]
    · rw [List.getElem?_eq_none (by rw [wipeG_len, wipeG_len]; omega), List.getElem?_eq_none (by rw [wipeG_len]; omega)]
  · rw [wipeG_get h]

section
variable {W W' : Addr → Prop} {σ σ' : L2.St} {g g' : Gv} {H H' : Hp} {vs : List Nat}
theorem ad_wipe {j : Nat} {a : Addr} (h : j ∉ vs) : ad (wipe σ vs) j a ↔ ad σ j a := by
  unfold ad
  rw [wipe_get h]
theorem wipeG_at {j : Nat} {s : Slot} (e : (wipeG g vs)[j]? = some s) (h : s ≠ .un) : j ∉ vs ∧ g[j]? = some s := by
  by_cases m : j ∈ vs
  · exact absurd (wipeG_in m s e) h
  · exact ⟨m, by rw [← wipeG_get m]; exact e⟩
theorem hold_un {s : Slot} {d : D} (h : s.hold = some d) : s ≠ .un := fun z => by subst z; cases h
theorem eok_wipe (G : EOk W H σ g) : EOk W H (wipe σ vs) (wipeG g vs) where
  len := by rw [wipeG_len, wipe_length]; exact G.len
  wok := G.wok
  sh := fun j d e => by
    obtain ⟨n, e⟩ := wipeG_at e (fun z => nomatch z)
    obtain ⟨v, ev, r⟩ := G.sh j d e
    exact ⟨v, by rw [wipe_get n]; exact ev, r⟩
  hd := fun j s d e hd => by
    obtain ⟨n, e⟩ := wipeG_at e (hold_un hd)
    obtain ⟨a, ha, w, o⟩ := G.hd j s d e hd
    exact ⟨a, (ad_wipe n).mpr ha, w, o⟩
  inj := fun i j s t a n e1 e2 m hd ha hb => by
    obtain ⟨du, hdu⟩ := Slot.hold_of_mut m
    obtain ⟨n1, e1⟩ := wipeG_at e1 (hold_un hdu)
    obtain ⟨_, hd'⟩ := hd
    obtain ⟨n2, e2⟩ := wipeG_at e2 (hold_un hd')
    exact G.inj i j s t a n e1 e2 m ⟨_, hd'⟩ ((ad_wipe n1).mp ha) ((ad_wipe n2).mp hb)
theorem mut_wipe {b : Addr} (m : MutA (wipe σ vs) (wipeG g vs) b) : MutA σ g b := by
  obtain ⟨j, s, e, hm, hb⟩ := m
  obtain ⟨d, hd⟩ := Slot.hold_of_mut hm
  obtain ⟨n, e⟩ := wipeG_at e (hold_un hd)
  exact ⟨j, s, e, hm, (ad_wipe n).mp hb⟩
/-- a step within a block, wiped -/
theorem stp_wipe (h0 : wipeG g vs = g) (s : Stp W σ g H W' σ' g' H') (hσ : wipe σ vs = σ) : Stp W σ g H W' (wipe σ' vs) (wipeG g' vs) H' where
  keep := s.keep
  there := s.there
  w := s.w
  wb := s.wb
  ob := fun b m => s.ob b (mut_wipe m)
  lf := fun i d e => by
    obtain ⟨e1, z⟩ := s.lf i d e
    have n : i ∉ vs := fun m => by
      rw [← h0] at e
      exact nomatch wipeG_in m _ e
    exact ⟨by rw [wipeG_get n]; exact e1, by rw [wipe_get n]; exact z⟩
  lb := fun i d e => by
    obtain ⟨_, e⟩ := wipeG_at e (fun z => nomatch z)
    exact s.lb i d e
  fx := fun i d e => by
    obtain ⟨⟨d1, e1⟩, z⟩ := s.fx i d e
    have n : i ∉ vs := fun m => by
      rw [← h0] at e
      exact nomatch wipeG_in m _ e
    exact ⟨⟨d1, by rw [wipeG_get n]; exact e1⟩, by rw [wipe_get n]; exact z⟩
theorem backG_in {g0 : Gv} {j : Nat} : ∀ {vs : List Nat}, j ∈ vs → ∀ s, (backG g0 g vs)[j]? = some s → s = (g0[j]?).getD .un
  | [], h, _, _ => by cases h
  | v :: vs, h, s, e => by
    unfold backG at e
    rcases get_set e with ⟨rfl, es⟩ | ⟨n, e⟩
    · exact es
    · rcases List.mem_cons.mp h with z | z
      · exact absurd z.symm n
      · exact backG_in z s e
theorem backG_get {g0 : Gv} {j : Nat} : ∀ {vs : List Nat}, j ∉ vs → (backG g0 g vs)[j]? = g[j]?
  | [], _ => rfl
  | v :: vs, h => by
    simp only [List.mem_cons, not_or] at h
    unfold backG
    rw [List.getElem?_set_ne (Ne.symm h.1), backG_get h.2]
theorem backG_len {g0 : Gv} : ∀ vs : List Nat, (backG g0 g vs).length = g.length
  | [] => rfl
  | v :: vs => by unfold backG; rw [List.length_set, backG_len vs]
/-- behind a block: its own places are what they were -/
theorem block_back (G : EOk W H σ g) (G2 : EOk W' H' (wipe σ vs) g') (s : Stp W (wipe σ vs) (wipeG g vs) H W' (wipe σ vs) g' H') : EOk W' H' σ (backG g g' vs) ∧ Stp W σ g H W' σ (backG g g' vs) H' := by
  have kp : Kept W H H' := fun b x e n => s.keep b x e fun m => n (G.mutW (mut_wipe m).held)
  have l2 : g'.length = g.length := by rw [G2.len, wipe_length, G.len]
  -- each place of the frame behind the block
  have at' : ∀ (j : Nat) (t : Slot), (backG g g' vs)[j]? = some t → (j ∈ vs ∧ g[j]? = some t) ∨ (j ∉ vs ∧ g'[j]? = some t) := fun j t e => by
    by_cases m : j ∈ vs
    · refine .inl ⟨m, ?_⟩
      have l := (List.getElem?_eq_some_iff.mp e).1
      rw [backG_len, l2] at l
      have := backG_in m t e
      rw [List.getElem?_eq_getElem l] at this ⊢
      rw [this]
      rfl
    · exact .inr ⟨m, by rw [← backG_get m]; exact e⟩
  -- a saved list is not written meanwhile
  have saved : ∀ (j : Nat) (t : Slot) (d : D) (a : Addr), j ∈ vs → g[j]? = some t → t.hold = some d → ad σ j a → ¬ MutA (wipe σ vs) (wipeG g vs) a := fun j t d a m e hd ha mm => by
    obtain ⟨k, u, ek, hm, hk⟩ := mm
    obtain ⟨du, hdu⟩ := Slot.hold_of_mut hm
    obtain ⟨nk, ek⟩ := wipeG_at ek (hold_un hdu)
    exact G.inj k j u t a (fun z => nk (by rw [z]; exact m)) ek e hm ⟨d, hd⟩ ((ad_wipe nk).mp hk) ha
  have apart : ∀ (j k : Nat) (t u : Slot) (a : Addr), j ∈ vs → g[j]? = some t → (∃ d, t.hold = some d) → ad σ j a → k ∉ vs → g'[k]? = some u → (∃ d, u.hold = some d) → (t.mut = true ∨ u.mut = true) → ¬ ad σ k a := fun j k t u a m e hd ha nk ek hk mm hka => by
    obtain ⟨d, hd⟩ := hd
    obtain ⟨d', hk⟩ := hk
    obtain ⟨_, _, wa, oa⟩ := G.hd j t d e hd
    have ea : ∃ o, H a = some o := G.wok a (G.mutW ⟨j, t, d, e, hd, ha⟩)
    have hkw : ad (wipe σ vs) k a := (ad_wipe nk).mpr hka
    have njk : j ≠ k := fun z => nk (by rw [← z]; exact m)
    cases u with
    | un => cases hk
    | sh _ => cases hk
    | lk x =>
      have := s.lb k x ek
      obtain ⟨_, e1⟩ := wipeG_at this (fun z => nomatch z)
      rcases mm with mm | mm
      · exact G.inj j k t _ a njk e e1 mm ⟨x, rfl⟩ ha hka
      · cases mm
    | ow x =>
      rcases s.ob a ⟨k, _, ek, rfl, hkw⟩ with z | z
      · exact saved j t d a m e hd ha z
      · obtain ⟨o, eo⟩ := ea
        rw [eo] at z; cases z
    | io x =>
      rcases s.ob a ⟨k, _, ek, rfl, hkw⟩ with z | z
      · exact saved j t d a m e hd ha z
      · obtain ⟨o, eo⟩ := ea
        rw [eo] at z; cases z
  refine ⟨⟨by rw [backG_len, l2]; exact G.len, G2.wok, fun j d e => ?_, fun j t d e hd => ?_, fun i j t u a n e1 e2 m hd ha hb => ?_⟩, ⟨fun b x e n => s.keep b x e fun m => n (mut_wipe m), s.there, fun b w n => s.w b w fun m => n (mut_wipe m), s.wb, fun b m => ?_, fun j d e => ?_, fun j d e => ?_, fun j d e => ?_⟩⟩
  · rcases at' j _ e with ⟨m, e⟩ | ⟨n, e⟩
    · obtain ⟨v, ev, r⟩ := G.sh j d e
      exact ⟨v, ev, Rp.mono kp s.wb d v r⟩
    · obtain ⟨v, ev, r⟩ := G2.sh j d e
      exact ⟨v, by rw [← wipe_get n]; exact ev, r⟩
  · rcases at' j _ e with ⟨m, e⟩ | ⟨n, e⟩
    · obtain ⟨a, ha, wa, oa⟩ := G.hd j t d e hd
      have nm := saved j t d a m e hd ha
      exact ⟨a, ha, s.w a wa nm, Own.mono kp s.wb (fun x ex => s.keep a x ex nm) oa⟩
    · obtain ⟨a, ha, wa, oa⟩ := G2.hd j t d e hd
      exact ⟨a, (ad_wipe n).mp ha, wa, oa⟩
  · rcases at' i _ e1 with ⟨m1, e1⟩ | ⟨n1, e1⟩
    · rcases at' j _ e2 with ⟨m2, e2⟩ | ⟨n2, e2⟩
      · exact G.inj i j t u a n e1 e2 m hd ha hb
      · exact apart i j t u a m1 e1 (Slot.hold_of_mut m) ha n2 e2 hd (.inl m) hb
    · rcases at' j _ e2 with ⟨m2, e2⟩ | ⟨n2, e2⟩
      · exact apart j i u t a m2 e2 hd hb n1 e1 (Slot.hold_of_mut m) (.inr m) ha
      · exact G2.inj i j t u a n e1 e2 m hd ((ad_wipe n1).mpr ha) ((ad_wipe n2).mpr hb)
  · obtain ⟨j, t, e, hm, hb⟩ := m
    rcases at' j _ e with ⟨m, e⟩ | ⟨n, e⟩
    · exact .inl ⟨j, t, e, hm, hb⟩
    · exact (s.ob b ⟨j, t, e, hm, (ad_wipe n).mpr hb⟩).imp mut_wipe id
  · have l := (List.getElem?_eq_some_iff.mp e).1
    by_cases m : j ∈ vs
    · have lb : j < (backG g g' vs).length := by rw [backG_len, l2]; exact l
      have := backG_in m _ (List.getElem?_eq_getElem lb)
      rw [List.getElem?_eq_getElem lb, this, e]
      exact ⟨rfl, rfl⟩
    · obtain ⟨e1, _⟩ := s.lf j d (by rw [wipeG_get m]; exact e)
      exact ⟨by rw [backG_get m]; exact e1, rfl⟩
  · rcases at' j _ e with ⟨m, e⟩ | ⟨n, e⟩
    · exact e
    · have := s.lb j d e
      exact (wipeG_at this (fun z => nomatch z)).2
  · have l := (List.getElem?_eq_some_iff.mp e).1
    by_cases m : j ∈ vs
    · have lb : j < (backG g g' vs).length := by rw [backG_len, l2]; exact l
      have := backG_in m _ (List.getElem?_eq_getElem lb)
      rw [List.getElem?_eq_getElem lb, this, e]
      exact ⟨⟨d, rfl⟩, rfl⟩
    · obtain ⟨⟨d1, e1⟩, _⟩ := s.fx j d (by rw [wipeG_get m]; exact e)
      exact ⟨⟨d1, by rw [backG_get m]; exact e1⟩, rfl⟩
theorem unlock_hold {g : Gv} {i j : Nat} {t : Slot} (h : (unlock g i)[j]? = some t) : ∃ u, g[j]? = some u ∧ u.hold = t.hold := by
  unfold unlock at h
  split at h
  · rename_i d e
    rcases get_set h with ⟨rfl, es⟩ | ⟨n, h⟩
    · subst es; exact ⟨_, e, rfl⟩
    · exact ⟨t, h, rfl⟩
  · exact ⟨t, h, rfl⟩
theorem unlockL_hold : ∀ (is : List Nat) {g : Gv} {j : Nat} {t : Slot}, (unlockL g is)[j]? = some t → ∃ u, g[j]? = some u ∧ u.hold = t.hold
  | [], _, _, t, h => ⟨t, h, rfl⟩
  | i :: is, g, j, t, h => by
    obtain ⟨u, eu, hu⟩ := unlock_hold h
    obtain ⟨v, ev, hv⟩ := unlockL_hold is eu
    exact ⟨v, ev, hv.trans hu⟩
/-- a list that no place holds is written -/
theorem eok_side (G : EOk W H σ g) {a : Addr} {o : HO} (w : W a) (n : ¬ HeldA σ g a) : EOk W (upd H a o) σ g := by
  have kp : Kept W H (upd H a o) := fun b x e nb => by
    rw [upd_ne (fun z => nb (by rw [z]; exact w))]
    exact e
  have sb : Sub W H W := fun b w => .inl w
  refine ⟨G.len, fun b wb => ?_, fun j d e => ?_, fun j t d e hd => ?_, G.inj⟩
  · by_cases z : b = a
    · rw [z]; exact ⟨_, upd_same⟩
    · rw [upd_ne z]; exact G.wok b wb
  · obtain ⟨v, ev, r⟩ := G.sh j d e
    exact ⟨v, ev, Rp.mono kp sb d v r⟩
  · obtain ⟨b, hb, wb, ob⟩ := G.hd j t d e hd
    refine ⟨b, hb, wb, Own.mono kp sb (fun x ex => ?_) ob⟩
    rw [upd_ne (fun z => n (by rw [← z]; exact ⟨j, t, d, e, hd, hb⟩))]
    exact ex
theorem rpA_side {a : Addr} {o : HO} (w : W a) {xs : List V} {ds : List D} (r : RpA W H xs ds) : RpA W (upd H a o) xs ds :=
  RpA.mono (fun b x e nb => by
    rw [upd_ne (fun z => nb (by rw [z]; exact w))]
    exact e) (fun b w => .inl w) _ _ r
end
end TL
/-! TL15: a comprehension, read. -/
namespace TL
open PySem PySem.Spec PyProof.Rows L2
variable [Plc]

theorem lcLoop_nil {vs : List Nat} {tg : Tg} {ft : Gv → Rs Bool} {fx : Gv → Rs Op} {acc : List D} {g : Gv} : lcLoop vs tg ft fx [] acc g = .ok acc g := rfl
/-- one turn that goes well -/
theorem lcLoop_cons {vs : List Nat} {tg : Tg} {ft : Gv → Rs Bool} {fx : Gv → Rs Op} {d : D} {ds acc r : List D} {g gF : Gv} (h : lcLoop vs tg ft fx (d :: ds) acc g = .ok r gF) :
    ∃ g1 b g2, bindTg tg d (wipeG g vs) = some g1 ∧ ft g1 = .ok b g2 ∧
      (b = true → ∃ x own g3, fx g2 = .ok (.val x own) g3 ∧ lcLoop vs tg ft fx ds (acc ++ [x]) (wipeG g3 vs) = .ok r gF) ∧
      (b = false → lcLoop vs tg ft fx ds acc (wipeG g2 vs) = .ok r gF) := by
  have h' : (match bindTg tg d (wipeG g vs) with
    | none => Rs.bad
    | some g1 => match ft g1 with
      | .ok true g2 => match fx g2 with
        | .ok (.val x _) g3 => lcLoop vs tg ft fx ds (acc ++ [x]) (wipeG g3 vs)
        | _ => .bad
      | .ok false g2 => lcLoop vs tg ft fx ds acc (wipeG g2 vs)
      | _ => .bad) = .ok r gF := h
  cases h1 : bindTg tg d (wipeG g vs) with
  | none => rw [h1] at h'; cases h'
  | some g1 =>
    rw [h1] at h'
    simp only at h'
    cases h2 : ft g1 with
    | bad => rw [h2] at h'; cases h'
    | ex c fs g2 => rw [h2] at h'; cases h'
    | ok b g2 =>
      rw [h2] at h'
      cases b with
      | false => exact ⟨g1, false, g2, rfl, h2, (fun z => nomatch z), fun _ => h'⟩
      | true =>
        refine ⟨g1, true, g2, rfl, h2, fun _ => ?_, (fun z => nomatch z)⟩
        simp only at h'
        cases h3 : fx g2 with
        | bad => rw [h3] at h'; cases h'
        | ex c fs g3 => rw [h3] at h'; cases h'
        | ok o g3 =>
          rw [h3] at h'
          cases o with
          | slot i => cases h'
          | val x own => exact ⟨x, own, g3, rfl, h'⟩
theorem finLc_ok {vs : List Nat} {tg : Tg} {rng : Bool} {ft : Gv → Rs Bool} {fx : Gv → Rs Op} {p : List D × List Nat} {g : Gv} (h : finLc vs tg rng ft fx p g ≠ .bad) :
    (rng = true → p.1.length ≤ sizeLine) ∧ ∃ ds gF, lcLoop vs tg ft fx p.1 [] (wipeG (lockL g p.2) vs) = .ok ds gF ∧ finLc vs tg rng ft fx p g = .ok (.val (.list ds) true) (unlockL (backG (lockL g p.2) gF vs) p.2) := by
  unfold finLc at h ⊢
  by_cases l : rng = true ∧ sizeLine < p.1.length
  · rw [if_pos l] at h; exact absurd rfl h
  · rw [if_neg l] at h ⊢
    refine ⟨fun z => Nat.not_lt.mp fun q => l ⟨z, q⟩, ?_⟩
    cases e : lcLoop vs tg ft fx p.1 [] (wipeG (lockL g p.2) vs) with
    | bad => rw [e] at h; exact absurd rfl h
    | ex c fs g' => rw [e] at h; exact absurd rfl h
    | ok ds gF => exact ⟨ds, gF, rfl, rfl⟩

theorem lc_imp {K : PySem.W.Frag} {T : Th} {fi : Gv → Rs (List D × List Nat)} {ft : Gv → Rs Bool} {fx : Gv → Rs Op} {vs : List Nat} {tg : Tg} {rng : Bool} (htg : ∀ i, i ∈ tg.names → i ∈ vs) {T0 : Th} {σ : L2.St} {H : Hp} {Q : VK}
    (h : tI T (fun g => (fi g).bind fun p g => finLc vs tg rng ft fx p g) σ H Q) : tLc (tIt T rng fi) (tgR K tg) (tTb T0 ft) (tI T0 fx) vs σ H Q := by
  obtain ⟨W, g, G, h⟩ := h
  refine ⟨W, g, G, (Pst.bind0 h).mono fun p g1 W1 H1 _ s1 G1 h1 lk len J F => ?_⟩
  obtain ⟨len', dsF, gF, hrun, hfin⟩ := finLc_ok h1.nb
  rw [hfin] at h1
  have small : p.1.length ≤ sizeLine := by
    cases rng with
    | true => exact len' rfl
    | false => exact len rfl
  have Gl := lockL_eok p.2 G1
  have Gw : EOk W1 H1 (wipe σ vs) (wipeG (lockL g1 p.2) vs) := eok_wipe Gl
  intro L0 nD
  have nDW : ∀ b, W1 b → b ≠ L0 := fun b w z => by
    subst z
    obtain ⟨o, e⟩ := G1.wok b w
    rw [nD] at e; cases e
  -- the state between two turns
  let Wm : Nat → Nat → Hp → Prop := fun i m Hc => m = p.1.length - i ∧ i ≤ p.1.length ∧ ∃ (Wc : Addr → Prop) (gc : Gv) (accV : List V) (accD : List TL.D),
    EOk Wc Hc (wipe σ vs) gc ∧ Stp W1 (wipe σ vs) (wipeG (lockL g1 p.2) vs) H1 Wc (wipe σ vs) gc Hc ∧ Hc L0 = some (.lst accV) ∧ RpA Wc Hc accV accD ∧ Wc L0 ∧ ¬ HeldA (wipe σ vs) gc L0 ∧ accV.length ≤ i ∧ wipeG gc vs = gc ∧
    lcLoop vs tg ft fx (p.1.drop i) accD gc = .ok dsF gF
  refine ⟨Wm, ⟨p.1.length, by simp, Nat.zero_le _, more W1 L0, _, [], [], eok_more Gw (same_upd nD) nD ⟨_, upd_same⟩, stp_more (same_upd nD) nD, upd_same, .nil, .inr rfl, fun z => nDW L0 (Gw.mutW z) rfl, Nat.le_refl _, wipeG_wipeG _ _, hrun⟩, ?_⟩
  rintro i m Hc ⟨rfl, hi, Wc, gc, accV, accD, Gc, sc, hD, rA, wD, nH, la, hw, hl⟩
  have kM : Kept (MutA σ (lockL g1 p.2)) H1 Hc := fun b x e n => sc.keep b x e fun m => n (mut_wipe m)
  by_cases e : i = p.1.length
  · -- the end
    subst e
    refine .inl ⟨F.stop _ _ kM (Nat.le_refl _), ?_⟩
    rw [List.drop_length, lcLoop_nil] at hl
    cases hl
    obtain ⟨G2, s2⟩ := block_back Gl Gc sc
    obtain ⟨G3, s3⟩ := unlock_back p.2 lk G1 G2 s2
    refine h1 Hc Wc (s1.trans G.wok s3) G3 (.ref L0) ⟨L0, rfl, wD, ⟨accV, hD, Nat.le_trans la small, rA⟩, ?_, .inl (s1.there L0 nD)⟩
    rintro ⟨j, t, d, ej, hd, hj⟩
    obtain ⟨u, eu, hu⟩ := unlockL_hold p.2 ej
    have hud : u.hold = some d := hu.trans hd
    by_cases q : j ∈ vs
    · have l := (List.getElem?_eq_some_iff.mp eu).1
      have l' : j < (lockL g1 p.2).length := by
        have := Gc.len
        rw [backG_len, this, wipe_length, ← Gl.len] at l
        exact l
      have := backG_in q u eu
      rw [List.getElem?_eq_getElem l'] at this
      exact nDW L0 (Gl.mutW ⟨j, u, d, by rw [this, List.getElem?_eq_getElem l']; rfl, hud, hj⟩) rfl
    · rw [backG_get q] at eu
      exact nH ⟨j, u, d, eu, hud, (ad_wipe q).mpr hj⟩
  · have hlt : i < p.1.length := by omega
    refine .inr ⟨F.go _ _ kM hlt, Wm (i + 1) (p.1.length - (i + 1)), fun H' w => ⟨_, by omega, w⟩, fun x H2 y => ?_⟩
    have hd : p.1[i]? = some p.1[i] := List.getElem?_eq_getElem hlt
    rw [List.drop_eq_getElem_cons hlt] at hl
    obtain ⟨g2, b, g3, hb, ht, htr, hfa⟩ := lcLoop_cons hl
    rw [hw] at hb
    obtain ⟨sm, rx⟩ := F.yld i Hc Wc x H2 _ kM sc.wb Gc.wok hd y
    have G2 := eok_new Gc sm
    have s2 : Stp Wc (wipe σ vs) gc Hc Wc (wipe σ vs) gc H2 := stp_new sm
    refine bind_imp (K := K) G2 (.inl rx) (fun _ _ => rx) hb fun σ2 G3 s3 off => ?_
    have eσ : wipe σ2 vs = wipe σ vs := by
      have o2 : OffOf vs (wipe σ vs) σ2 := ⟨off.1, fun j nj => off.2 j fun z => nj (htg j z)⟩
      rw [wipe_eq o2, wipe_wipe]
    refine ⟨eσ, Wc, g2, G3, ?_⟩
    rw [ht]
    intro H4 W4 s4 G4
    have D2 : H2 L0 = some (.lst accV) := sm L0 _ hD
    -- L0 is not written by the turn's parts
    have nm0 : ¬ MutA (wipe σ vs) gc L0 := fun z => nH z.held
    have nm2 : ¬ MutA σ2 g2 L0 := fun z => (s3.ob L0 z).elim nm0 fun z => by rw [D2] at z; cases z
    have D4 : H4 L0 = some (.lst accV) := s4.keep L0 _ D2 nm2
    have nm3 : ¬ MutA σ2 g3 L0 := fun z => (s4.ob L0 z).elim nm2 fun z => by rw [D2] at z; cases z
    have tot : Stp Wc (wipe σ vs) gc Hc W4 σ2 g3 H4 := s2.trans Gc.wok (s3.trans G2.wok s4)
    have nh3 : ¬ HeldA σ2 g3 L0 := fun z => (tot.held z).elim nH fun z => by rw [hD] at z; cases z
    have w4 : W4 L0 := s4.w L0 (s3.w L0 wD nm0) nm2
    cases b with
    | false =>
      show (if false = true then _ else _)
      rw [if_neg (by decide)]
      refine ⟨rfl, hlt, W4, wipeG g3 vs, accV, accD, ?_, ?_, D4, (tot.rpA Gc rA), w4, fun z => ?_, by omega, wipeG_wipeG _ _, hfa rfl⟩
      · have := eok_wipe (vs := vs) G4
        rw [eσ] at this
        exact this
      · have := stp_wipe hw tot (wipe_wipe σ vs)
        rw [eσ] at this
        exact sc.trans Gw.wok this
      · rw [← eσ] at z
        obtain ⟨j, t, d, ej, hd, hj⟩ := z
        obtain ⟨n, ej⟩ := wipeG_at ej (hold_un hd)
        exact nh3 ⟨j, t, d, ej, hd, (ad_wipe n).mp hj⟩
    | true =>
      show (if true = true then _ else _)
      rw [if_pos rfl]
      obtain ⟨xd, own, g5, hx, hl2⟩ := htr rfl
      refine ⟨W4, g3, G4, ?_⟩
      rw [hx]
      intro H5 W5 s5 G5 v rv
      obtain ⟨P, G6, s6, rv'⟩ := keep_one G4 G5 s5 rv
      have D5 : H5 L0 = some (.lst accV) := s6.keep L0 _ D4 nm3
      have tot2 : Stp Wc (wipe σ vs) gc Hc (less W5 P) σ2 g5 H5 := tot.trans Gc.wok s6
      have nh5 : ¬ HeldA σ2 g5 L0 := fun z => (tot2.held z).elim nH fun z => by rw [hD] at z; cases z
      have w6 : less W5 P L0 := s6.w L0 w4 nm3
      refine ⟨accV, D5, by omega, rfl, hlt, less W5 P, wipeG g5 vs, accV ++ [v], accD ++ [xd], ?_, ?_, upd_same, ?_, w6, fun z => ?_, ?_, wipeG_wipeG _ _, hl2⟩
      · have := eok_wipe (vs := vs) G6
        rw [eσ] at this
        refine eok_side this w6 fun z => ?_
        rw [← eσ] at z
        obtain ⟨j, t, d, ej, hd, hj⟩ := z
        obtain ⟨n, ej⟩ := wipeG_at ej (hold_un hd)
        exact nh5 ⟨j, t, d, ej, hd, (ad_wipe n).mp hj⟩
      · have st := stp_wipe hw tot2 (wipe_wipe σ vs)
        rw [eσ] at st
        have st2 := sc.trans Gw.wok st
        exact ⟨fun b x e n => by
            rw [upd_ne (fun z => by rw [z, nD] at e; cases e)]
            exact st2.keep b x e n, fun b e => st2.there b (by
              by_cases z : b = L0
              · rw [z, upd_same] at e; cases e
              · rw [upd_ne z] at e; exact e), st2.w, st2.wb, st2.ob, st2.lf, st2.lb, st2.fx⟩
      · exact rpA_side w6 ((tot2.rpA Gc rA).append (.cons rv' .nil))
      · rw [← eσ] at z
        obtain ⟨j, t, d, ej, hd, hj⟩ := z
        obtain ⟨n, ej⟩ := wipeG_at ej (hold_un hd)
        exact nh5 ⟨j, t, d, ej, hd, (ad_wipe n).mp hj⟩
      · rw [List.length_append]
        show accV.length + 1 ≤ i + 1
        omega
end TL
/-! TX2: try: .. except C as n: suite, the exception kept behind it. -/
namespace TL
open PySem PySem.Spec PyProof.Rows L2
def endK (D : Ends) (i : Nat) (a : Addr) (cls : Value) (d : Option Addr) : Ends where
  nx := fun σ' H' => D.nx (σ'.set i none) (upd H' a (xo a cls d))
  rt := fun _ _ => False
  bk := fun _ _ => False
  ct := fun _ _ => False
def wKp (K : PySem.W.Frag) (c : Value) (i : Nat) (ts : Addr → Value → Option Addr → TS) (Wout : WX) (D : Ends) : WX := fun cls d σ H =>
  ∃ b, PySem.W.exmOne K cls c = some b ∧ (b = true → ∀ a, H a = none → ts a cls d (endK D i a cls d) (σ.set i (some (.ref a))) H) ∧ (b = false → Wout cls d σ H)
section
variable {X : Cx} {x n : Str} {c : Value} {i : Nat} {body suite : List Stmt} {t0 : Stmt} {p0 p1 p2 : Pos} {tb : WX → TS} {ts : Addr → Value → Option Addr → TS} {Wout : WX}
theorem ps_try_keep (hs : X.stack = X.env :: X.outer) (hf : X.env.frame = some X.env.locals) (hx : X.ex = []) (hN : X.N.Nodup) (hi : X.N[i]? = some n) (hl : X.env.kindOf n = some .local) (hc : Names X x c) (tk : Takes X Wout)
    (hb : ∀ (W : WX) (pn : List (Addr × Obj)) (xe : Value → Shared → Prop), Takes (X.tr pn xe) W → PassesOwn (model X.prog X.w) X.A X.env xe → PSs (X.tr pn xe) body (tb W))
    (hsu : ∀ (a : Addr) (oe : Obj) (cls : Value) (d : Option Addr) (pn : List (Addr × Obj)), Zc cls d oe → (∃ vs, oe.data = .fields vs) → PSs (X.suite a ((a, oe) :: pn)) (t0 :: suite) (ts a cls d)) :
    PS X (.Try body [.ExceptHandler (some (.Name x p0)) (some n) (t0 :: suite) p1] [] [] p2) (fun D σ H => tb (wKp X.K c i ts Wout D) D σ H) := by
  constructor
  intro pins s σ H D I want
  have okX := I.ok
  have frX : X.A.frames = some (X.env :: X.outer) := okX.frames.trans (congrArg some hs)
  apply wpAny_Try_except
  let catch_ : Value → Shared → Prop := fun e z1 => wpAny (model X.prog X.w) X.A (noteFrame e X.env) (fun _ z2 => wpAny (model X.prog X.w) X.A (setFlight e none)
    (fun _ z3 => wpAny (model X.prog X.w) X.A (handleBy e X.env [.ExceptHandler (some (.Name x p0)) (some n) (t0 :: suite) p1]) (SP X pins D) X.xe z3) X.xe z2) X.xe z1
  have lands : Takes (X.tr (X.pn ++ pins) catch_) (wKp X.K c i ts Wout D) := by
    rintro u z ⟨a, B, sI, pI, σI, HI, cls, d, rfl, JI, nb, up, sky, na, os, ag, b, hm, yes, no⟩
    have J : Inv X pins σI HI sI := Inv.ofTry JI okX
    rw [show (X.tr (X.pn ++ pins) catch_).stack = X.env :: X.outer from hs] at sky nb
    have nb' : ∀ b o, sI.heap.get? b = some o → b ∉ frs X.stack → B.get? b = some o := by rw [hs]; exact nb
    have Ba : B.get? a = none := by
      rcases sky with ⟨_, q, _⟩ | ⟨_, q, _⟩ | ⟨_, q, _⟩ <;> exact q
    show wpAny _ X.A (noteFrame (.ref a) X.env) _ _ _
    apply Sky.land Zc.steady frX hf sky
    intro h3 fl3 up3
    have J3 : Inv X pins σI HI { z with heap := h3 } := J.landed nb' fl3.1 (up.trans up3) os ag
    obtain ⟨o3, v3, g3, z3, d3⟩ := fl3.there
    have away : a ∉ frs (X.env :: X.outer) := by
      intro m
      obtain ⟨_, o', e', nn⟩ := fl3.2.2.1.mem m
      rw [g3] at e'
      cases e'
      exact nn _ d3
    have aL : a ≠ X.env.locals := fun e => away (List.mem_filterMap.mpr ⟨X.env, List.mem_cons_self, hf.trans (congrArg some e.symm)⟩)
    have aF : a ∉ X.fs := by
      intro m
      obtain ⟨v, hv, q⟩ := List.mem_filterMap.mp m
      exact away (List.mem_filterMap.mpr ⟨v, List.mem_cons_of_mem _ hv, q⟩)
    have gone : sI.heap.get? a = none := by
      cases q : sI.heap.get? a with
      | none => rfl
      | some o =>
        have := nb a o q away
        rw [Ba] at this
        cases this
    have new0 : X.s_0.heap.get? a = none := by
      cases q : X.s_0.heap.get? a with
      | none => rfl
      | some o =>
        obtain ⟨o', e'⟩ := J.base.there a o q (by rw [hx]; exact List.not_mem_nil)
        rw [gone] at e'
        cases e'
    have off : ∀ p ∈ X.pn ++ pins, p.1 ≠ a := by
      intro p hp e
      have q := (J.pin p hp).1
      rw [e, gone] at q
      cases q
    have S3 := J3.suite g3 d3 na aL aF
    apply wpAny_handleBy_cons (codeAny_handlers_test _) (by intro q; cases q)
    have LT : PySem.W.Looks (model X.prog X.w) h3 (typeOf (.ref a)) cls := by
      intro A Q E s1 k q
      exact wpAny_typeOf_ref (k _ _ g3) (z3.1.symm ▸ q)
    have LM := PySem.W.exm_one (M := model X.prog X.w) J3.kIn LT hm
    have named : ∀ {Q E : Value → Shared → Prop}, Q c { z with heap := h3 } → wpAny (model X.prog X.w) (X.A.mark (some (.ref a))) (eval (.Name x p0) X.env) Q E { z with heap := h3 } := by
      intro Q E q
      obtain ⟨h1, h2, h4 | ⟨h4, h5, h6⟩⟩ := hc
      · exact ld_glob S3 h1 h4 q h2
      · exact ld_blt S3 h1 h4 h5 q h6 h2
    apply named
    apply LM.here
    cases b with
    | true =>
      apply codeAny_handlers_suite_as
      apply HandSPX.lands_againZ fl3
      intro h4 fl4 up4
      have J4 : Inv X pins σI HI { z with heap := h4 } := J.landed nb' fl4.1 ((up.trans up3).trans up4) os ag
      obtain ⟨o4, v4, g4, z4, d4⟩ := fl4.there
      have S4 := J4.suite g4 d4 na aL aF
      refine store_ok (v := .ref a) (X := Cx.suite X a ((a, o4) :: (X.pn ++ pins))) S4 hN hi (show Loc X.env.scope n from .inl hl) rfl (fun s5 S5 => ?_) (.inr hl)
      refine wpAny_mono ((hsu a o4 cls d (X.pn ++ pins) z4 ⟨_, d4⟩).run [] s5 _ HI _ S5 (yes rfl a na)) (fun f s6 got => ?_) (fun _ _ z => z.elim)
      cases f with
      | next =>
        obtain ⟨σ6, H6, S6, q6⟩ := got
        exact gone_ok (keep_pin S6 okX) hN hi hl fun s7 J7 => ⟨_, _, adopt J7 z4 d4 new0 off, q6⟩
      | brk =>
        obtain ⟨_, _, _, q6⟩ := got
        exact q6.elim
      | cont =>
        obtain ⟨_, _, _, q6⟩ := got
        exact q6.elim
      | ret u =>
        obtain ⟨_, _, _, _, _, q6⟩ := got
        exact q6.elim
    | false =>
      show wpAny _ X.A (handleBy (.ref a) X.env []) _ _ _
      apply wpAny_handleBy_nil
      obtain ⟨_, _, _, oe, vs, T, _, _, he, _, hd, h1, _⟩ := id fl3
      unfold PySem.passOn
      apply wpAny_bind
      apply wpAny_field he hd h1
      rw [if_neg (by simp : ¬ ((Value.ref T == Value.none) = true))]
      have fin : wpAny (model X.prog X.w) X.A (setFlight (.ref a) X.env.frame) (fun _ s4 => wpAny (model X.prog X.w) X.A (throw (.ref a) : Sem Flow) (SP X pins D) X.xe s4) X.xe { z with heap := h3 } := by
        rw [hf]
        apply HandSPX.setFlight_upZ fl3
        intro h4 hh4 up4
        apply wpAny_throw
        exact tk _ _ ⟨a, B, sI, pins, σI, HI, cls, d, rfl, J, nb', (up.trans up3).trans up4, .inr (.inr (by rw [hs]; exact hh4)), na, os, ag, no rfl⟩
      first
        | exact wpAny_bind fin
        | exact wpAny_bind (wpAny_pure (wpAny_bind fin))
  refine wpAny_mono ((hb (wKp X.K c i ts Wout D) (X.pn ++ pins) catch_ lands PassesOwn.looking).run [] s σ H D (I.toTry _) want) (fun f s1 got => ?_) (fun e s1 he => he)
  cases f with
  | next =>
    obtain ⟨σ', H', J', q⟩ := got
    exact wpAny_execs_nil ⟨σ', H', J'.ofTry okX, q⟩
  | brk =>
    obtain ⟨σ', H', J', q⟩ := got
    exact ⟨σ', H', J'.ofTry okX, q⟩
  | cont =>
    obtain ⟨σ', H', J', q⟩ := got
    exact ⟨σ', H', J'.ofTry okX, q⟩
  | ret u =>
    obtain ⟨v, σ', H', J', r, q⟩ := got
    exact ⟨v, σ', H', J'.ofTry okX, r, q⟩
end
end TL
/-! TX3: what is asked of a kept exception: its field, its class. -/
namespace TL
open PySem PySem.Spec PyProof.Rows L2
section
variable {X : Cx} {pins : List (Addr × Obj)} {σ : L2.St} {H : Hp} {s : Shared} {a C dd : Addr} {fs : List (Str × V)}
theorem xo_at (I : Inv X pins σ H s) (e : H a = some (xo a (.ref C) (some dd))) (ed : H dd = some (.xd fs)) :
    ∃ (ox od : Obj) (mA : Str → Option Value), PySem.W.InstAt s.heap a ox C (some od) ∧ (∀ f, PySem.W.lookIn f od = some (mA f)) ∧ ∀ f, RelO (fs.lookup f) (mA f) := by
  have q : ObjOk X.prog X.w H s.heap a (.ext fun h => ∃ (oe : Obj) (vs : Array Value), h.get? a = some oe ∧ Zc (.ref C) (some dd) oe ∧ oe.data = .fields vs) := I.hok a _ e
  obtain ⟨oe, vs, g, ⟨z1, z2⟩, k⟩ := q.1
  have qd : ObjOk X.prog X.w H s.heap dd (.xd fs) := I.hok dd _ ed
  obtain ⟨mA, ns, r⟩ := qd
  obtain ⟨od, ho, hl⟩ := lookIn_ns ns
  refine ⟨oe, od, mA, ⟨g, z1, ?_, ?_⟩, hl, r⟩
  · unfold PySem.W.notCls
    rw [k] <;> rfl
  · rw [z2]
    exact ho
end
/-- x.n of a kept exception -/
def tXk (K : PySem.W.Frag) (n : Str) (te : TE) : TE := fun σ H Q => te σ H fun x H1 => ∃ (a C dd : Addr) (fs : List (Str × V)) (v : V), x = .ref a ∧ XfC K C ∧ PySem.W.findIn K (.ref C) n = some none ∧ H1 a = some (xo a (.ref C) (some dd)) ∧ H1 dd = some (.xd fs) ∧ fs.lookup n = some v ∧ Q v H1
theorem pe_xk {X : Cx} {e : Expr} {te : TE} {pos : Pos} {n : Str} (he : PE X e te) (hb : attributeBase e n X.env (eval e X.env) = eval e X.env := by rfl) : PE X (.Attribute e n pos) (tXk X.K n te) := by
  constructor
  intro pins s σ H Q I h
  refine attr_of hb (thn (he.run pins s σ H _ I h) fun u s1 got => ?_)
  obtain ⟨x, H1, I1, rx, a, C, dd, fs, v, rfl, T, no, ea, ed, l, q⟩ := got
  obtain rfl : u = Value.ref a := rx
  obtain ⟨ox, od, mA, J, hl, r⟩ := xo_at I1 ea ed
  obtain ⟨w, hw, rw'⟩ := RelO.some_of (v := v) (o := mA n) (by rw [← l]; exact r n)
  exact HandSPX.exc_get I1.kIn J T.ga T.gg T.exC (PySem.W.findObj_own T.hdC no rfl (by rw [hl, hw])) (handed_of rw') ⟨v, H1, I1.tok _, rw', q⟩
/-- isinstance(x, c) of a kept exception -/
def rIsK (K : PySem.W.Frag) : List V → Hp → VK → Prop := fun xs H Q => ∃ (a C dd : Addr) (fs : List (Str × V)) (c : V) (cv : Value) (b : Bool), xs = [.ref a, c] ∧ ExcC K C ∧ H a = some (xo a (.ref C) (some dd)) ∧ H dd = some (.xd fs) ∧ (∀ u, RelV c u → u = cv) ∧ PySem.W.kitOne K (.ref C) cv = some b ∧ Q (.bl b) H
theorem call_isK {X : Cx} : CallR X (.builtin "isinstance") (rIsK X.K) := by
  intro pins s σ H xs us Q I r h
  obtain ⟨a, C, dd, fs, c, cv, b, rfl, T, ea, ed, hcv, e, q⟩ := h
  cases r with
  | cons r1 rr =>
    cases rr with
    | cons r2 rr =>
      cases rr
      cases r1
      obtain rfl := hcv _ r2
      obtain ⟨ox, od, mA, J, _, _⟩ := xo_at I ea ed
      have cl : (PySem.W.clsIn X.K C).isSome = true := by
        obtain ⟨cd, hc, _⟩ := PySem.W.any_some T.hd
        rw [hc]; rfl
      exact PySem.W.kia_one (PySem.W.kitx_exc cl T.hg T.hk T.hs T.ha T.hn T.ht T.hm) I.kIn J e (fun z => nomatch z) fun tk => ⟨.bl b, H, I.kept (t' := tk) fun _ _ z => z, rfl, q⟩
end TL
/-! TX4: super().__init__(v) in an own exception's __init__, right under ValueError. -/
namespace TL
open PySem PySem.Spec PyProof.Rows L2
/-- what the def's place says of super() -/
structure SupX (X : Cx) (D cc fI cda : Addr) : Prop where
  ks : X.env.kindOf "super" = some .globalImplicit
  kc : X.env.kindOf "__class__" = some .free
  ka : X.env.kindOf "self" = some .local
  fu : X.env.func = some fI
  fn : ∃ (oc : Value) (od : Option Addr) (fd : FuncData) (osl : Array (Option Value)) (ar : Arg), X.K.lookup fI = some ⟨oc, od, .func fd, osl⟩ ∧ (fd.params.posonlyargs ++ fd.params.args).head? = some ar ∧ ar.arg = "self"
  co : X.env.code = .ref cda
  code : ∃ (cl : Value) (cd : Option Addr) (vs : Array Value) (sl : Array (Option Value)) (file : Str) (tf : Tok), X.K.lookup cda = some ⟨cl, cd, .fields vs, sl⟩ ∧ vs[2]? = some (.str file tf) ∧ ((X.prog.main.file : Str) == file) = true
  top : (X.prog.main.scope.names.lookup ("super" : Str)).isSome = false
  cell : X.env.cells.lookup ("__class__" : Str) = some cc
  held : ∃ (cl : Value) (cd : Option Addr) (sl : Array (Option Value)), X.K.lookup cc = some ⟨cl, cd, .cell (some (.ref D)), sl⟩
  mg : X.mg "super" = none
  clsD : ∃ cd, PySem.W.clsIn X.K D = some cd
  ops : PySem.W.nsIn X.K cStatics "thirdparty.any" = some none
/-- what the class of the instance says -/
structure SupC (K : PySem.W.Frag) (C D : Addr) : Prop where
  sub : PySem.W.mroIn K C (.ref D) = some true
  sup : PySem.W.ks_superIn K C D "__init__" = some (some (.builtin "ValueError.__init__"))
  sb : PySem.W.subIn K (.ref C) (.type "ValueError") = some true
section
variable {X : Cx} {pins : List (Addr × Obj)} {σ : L2.St} {H : Hp} {s : Shared} {D cc fI cda a C : Addr} {body : List Stmt} {p0 p1 p2 p4 p5 : Pos} {e : Expr}
theorem sup_base {attr : Str} {whole : Sem Value} {Q : Value → Shared → Prop} {E : Value → Shared → Prop} (S : SupX X D cc fI cda) (T : SupC X.K C D) (I : Inv X pins σ H s) (h0 : X.N[0]? = some ("self" : Str)) (hs : σ[0]? = some (some (.ref a))) (vis : Vis X.env.scope "self") (ea : H a = some (exo a C none)) (hat : (attr == ("__class__" : Str)) = false)
    (h : ∀ (so : Addr) (h' : Heap), so = s.heap.objs.size → h'.get? so = some { cls := .type "super", dict := none, data := .fields #[.ref D, .ref a, .ref C], slots := #[] } → (∀ y o, s.heap.get? y = some o → h'.get? y = some o) → Q (.ref so) { s with heap := h' }) :
    _root_.PySem.wpAt (model X.prog X.w) X.A (.func body X.env) (attributeBase (.Call (.Name "super" p0) [] [] p1) attr X.env whole) Q E s := by
  obtain ⟨oc, od, fd, osl, ar, lf, hd, en⟩ := S.fn
  obtain ⟨cl, cd, vs, sl, file, tf, lc, v2, hfile⟩ := S.code
  obtain ⟨cl2, cd2, sl2, lcc⟩ := S.held
  obtain ⟨cdD, hD⟩ := S.clsD
  have kin := I.kIn
  obtain ⟨oD, g1, g2⟩ : ∃ oD, s.heap.get? D = some oD ∧ oD.data = .cls cdD := by
    unfold PySem.W.clsIn at hD
    split at hD
    · rename_i ho
      cases hD
      exact ⟨_, kin _ _ ho, rfl⟩
    · cases hD
  obtain ⟨t1, ge⟩ := exo_at I.hok ea
  refine PySem.ks_wpAt_super_base S.ks S.kc hat S.fu (kin _ _ lf) rfl hd S.co (kin _ _ lc) rfl v2 hfile S.top ?_
  obtain ⟨mb, b1, b2⟩ := I.mod.blt
  refine PySem.W.ks_loadName_global I.ok.kind S.ks (Calls.loadGlobal_builtin (by rw [I.ok.glob]; exact I.mod.glob.keeps I.bk) S.mg (by rw [I.ok.blt]; exact b1.keeps I.bk) ((b2 "super" (by decide)).trans (by first | rfl | kernel_rfl)) ⟨rfl, ?_⟩)
  refine wpAny_loadName_free I.ok.kind S.kc S.cell ⟨_, kin _ _ lcc, rfl⟩ ?_
  obtain ⟨m, ns, lk⟩ := I.loc
  obtain ⟨u, ru, l⟩ := lk 0 "self" (.ref a) h0 hs vis
  obtain rfl : u = Value.ref a := ru
  have ms : m "self" = some (.ref a) := by
    rcases l with ⟨_, q⟩ | ⟨q, _⟩
    · exact q
    · rw [S.ka] at q
      rcases q with q | q <;> cases q
  rw [en]
  refine wpAny_loadName_local I.ok.kind S.ka ns ms ?_
  refine PySem.ks_wpAny_isType_cls g1 g2 ⟨rfl, ?_⟩
  obtain ⟨hp, g, d, t, os⟩ := s
  exact PySem.ks_wpAny_call_super g1 g2 ge rfl (fun c z => by cases z) (PySem.W.looks_mroIn kin T.sub) fun h' q1 q2 => h _ h' rfl q1 q2
end
end TL
/-! TX5: the wrapper called: ValueError.__init__ bound to an instance of an own class. -/
namespace TL
open PySem PySem.Spec PyProof.Rows L2
theorem call_mw {prog : Program} {w : World} {A : Around} {E : Value → Shared → Prop} {h : Heap} {g : Array GenState} {d : Drawn} {t : Nat} {os : OsState} {nm q : Str} {C N : Addr} {bs bm : List Value} {hd : Bool} {sn : List Str} {sub : List Value} {ab : Bool} {col : Option Bool} {dd : Option Addr} {k0 k1 k2 k3 k5 : Option Value}
    {u x t0 : Addr} {us : List Value} {Q : Value → Shared → Prop} (hC : h.get? C = some (excClassObj nm q C N bs bm hd sn sub ab col dd k0 k1 k2 k3 k5 "ValueError.__new__")) (hx : h.get? x = some (HandSPX.excO C t0)) (hu : h.get? u = some (PySem.W.kxs_mw "ValueError.__init__" x)) (hl : us.length ≤ sizeLine)
    (hq : ∀ h' t1, (∀ b o, b ≠ x → h.get? b = some o → h'.get? b = some o) → h'.get? x = some (HandSPX.excO C t1) → Q .none ⟨h', g, d, t, os⟩) : wpAny (model prog w) A (call (.ref u) us) Q E ⟨h, g, d, t, os⟩ := by
  apply wpAny_call
  apply codeAny_of_tree
  show wpAny _ A.in1 (callAny (.ref u) { pos := us, kw := [] }) _ _ _
  simp only [callAny]
  apply wpAny_bind
  apply wpAny_load hu
  have e1 : (Value.type "method-wrapper" == Value.type "method" || Value.type "method-wrapper" == Value.type "builtin_function_or_method" || Value.type "method-wrapper" == Value.type "method-wrapper") = true := by decide
  simp only [PySem.W.kxs_mw, e1, if_true]
  refine PySem.W.KFB.if_so (by decide) ?_
  refine wpAny_bind (PySem.W.check_bound_init F.excBase_ValueError.toExcCallFacts hC hx rfl ?_)
  refine wpAny_bind (wpAny_pure (wpAny_pure ⟨plainId_quiet F.excBase_ValueError.init.plain _, ?_⟩))
  refine codeAny_builtin F.excBase_ValueError.initEntry ?_
  exact PySem.W.exc_init_tree (cls := .ref C) (t0 := t0) (dv := none) (c2 := .none) (c3 := .none) (b4 := .bool false) hx hl fun h' keep new _ => hq h' _ keep new
end TL
/-! TX6: the statement super().__init__(e). -/
namespace TL
open PySem PySem.Spec PyProof.Rows L2
section
variable {X : Cx} {pins : List (Addr × Obj)} {σ : L2.St} {H : Hp} {s : Shared} {D cc fI cda a C : Addr} {body : List Stmt} {p0 p1 p2 p4 p5 : Pos} {e : Expr} {ta : TA}
theorem upd_eq {o : HO} (h : H a = some o) : upd H a o = H := by
  funext b
  by_cases z : b = a
  · rw [z, upd_same, h]
  · rw [upd_ne z]
theorem sup_stmt {pl : Sem Bool} (S : SupX X D cc fI cda) (T : SupC X.K C D) (O : OexC X.K C) (I : Inv X pins σ H s) (h0 : X.N[0]? = some ("self" : Str)) (hs : σ[0]? = some (some (.ref a))) (vis : Vis X.env.scope "self") (ea : H a = some (exo a C none))
    (he : PA X [e] ta) (hta : ta σ H fun vs H1 => H1 = H ∧ vs.length ≤ 1000)
    (hc : eval (.Call (.Attribute (.Call (.Name "super" p0) [] [] p1) "__init__" p2) [e] [] p4) X.env = (do
      let ov ← attributeBase (.Call (.Name "super" p0) [] [] p1) "__init__" X.env (eval (.Call (.Name "super" p0) [] [] p1) X.env)
      standAt p2.atName
      let (f, first) ← holding [ov] (getMethod ov "__init__" pl)
      callWith p4 f first (backTo p4 (starEach [e] X.env)) []) := by rfl)
    (hst : starEach [e] X.env = (false, eval e X.env) :: starEach [] X.env := by rfl) (hpl : (backTo p4 (starEach [] X.env)).any (·.1) = false := by rfl) :
    _root_.PySem.wpAt (model X.prog X.w) X.A (.func body X.env) (exec (.Expr (.Call (.Attribute (.Call (.Name "super" p0) [] [] p1) "__init__" p2) [e] [] p4) p5) X.env) (fun f s' => f = .next ∧ Inv X pins σ H s') X.xe s := by
  obtain ⟨nm, q, N, bs, bm, sn, sub, ab, col, dd, k0, k1, k2, k3, k5, hC, hbm⟩ := O.cls
  refine ks_wpAt_Expr_any (ks_wpAt_MethodCall (pl := pl) ?_ hc) I.quiet (by rfl)
  refine sup_base S T I h0 hs vis ea (by decide) fun so h' eso g1 kp => ?_
  have I1 : Inv X pins σ H { s with heap := h' } := I.kept (t' := s.toks) kp
  have kin := I1.kIn
  obtain ⟨t1, ge⟩ := exo_at I1.hok ea
  have J : PySem.W.InstAt h' a { cls := .ref C, dict := none, data := .fields #[.ref t1, .none, .none, .none, .bool false, .none] } C none := ⟨ge, rfl, rfl, trivial⟩
  obtain ⟨hp, g, d, t, os⟩ := s
  cases hcl : PySem.W.clsIn X.K C with
  | none =>
    have := T.sup
    unfold PySem.W.ks_superIn at this
    rw [hcl] at this
    cases this
  | some cd =>
    have al := T.sup
    unfold PySem.W.ks_superIn at al
    rw [hcl] at al
    refine PySem.W.kxs_getMethod PySem.W.kxs_ValueError g1 (PySem.W.looks_opaque kin S.ops) (l₀ := cd.mro) (fun A Q E s k q => wpAny_bind ((PySem.W.looks_clsIn kin hcl) A _ E s k (wpAny_pure q))) rfl kin al (J.type.andThen (PySem.W.looks_subIn kin T.sb)) (PySem.W.ks_ne kin J hcl) (by decide) ?_
    have up : ∀ b o, h'.get? b = some o → (h'.push (PySem.W.kxs_mw "ValueError.__init__" a)).get? b = some o := fun b o e => Heap.get?_push_of_some _ e
    have I2 : Inv X pins σ H ⟨h'.push (PySem.W.kxs_mw "ValueError.__init__" a), g, d, t + 1, os⟩ := I1.kept (t' := t + 1) up
    have gu : (h'.push (PySem.W.kxs_mw "ValueError.__init__" a)).get? h'.objs.size = some (PySem.W.kxs_mw "ValueError.__init__" a) := Heap.get?_push_at rfl rfl
    have I3 : Inv X ((h'.objs.size, PySem.W.kxs_mw "ValueError.__init__" a) :: pins) σ H ⟨h'.push (PySem.W.kxs_mw "ValueError.__init__" a), g, d, t + 1, os⟩ := by
      refine I2.pins_of fun p hp => ?_
      rcases List.mem_cons.mp hp with rfl | hp
      · exact ⟨gu, I1.hok.fresh (Nat.le_refl _), Nat.ne_of_gt I1.lt, I1.nofs (Nat.le_refl _), fun v z => by cases z⟩
      · exact I2.pin p (List.mem_append_right _ hp)
    show wpAny _ _ (callWith p4 (.ref h'.objs.size) [] (backTo p4 (starEach [e] X.env)) []) _ _ _
    have run := he.run p4 _ _ σ H _ I3 hta
    rw [hst] at run ⊢
    refine PySem.W.kxs_callWith (i := "ValueError.__init__") (x := a) (by show (false || (backTo p4 (starEach [] X.env)).any (·.1)) = false; rw [hpl]; rfl) (PySem.Calls.evalArgs_plain (thn run fun us s1 got => ?_))
    obtain ⟨vs, H1, I4, r1, rfl, hl⟩ := got
    refine ⟨(I4.pin _ (List.mem_append_right _ List.mem_cons_self)).1, ?_⟩
    obtain ⟨t2, ge2⟩ := exo_at I4.hok ea
    obtain ⟨hp4, g4, d4, t4, os4⟩ := s1
    refine call_mw (I4.kIn _ _ hC) ge2 (I4.pin _ (List.mem_append_right _ List.mem_cons_self)).1 (by
      show us.length ≤ sizeLine
      rw [← Paired.length r1, sizeLine_eq]
      omega) fun h5 t5 keep new => ⟨rfl, ?_⟩
    have J5 := I4.write (t' := t4) (x := a) (e := a) (o := exo a C none) (by rw [ea]; exact True.intro) (.inl rfl) keep ⟨_, new⟩ (exo_ok new)
    rw [upd_eq ea] at J5
    exact J5.pins_of fun p hp => J5.pin p (List.mem_append_right _ (List.mem_cons_of_mem _ hp))
end
end TL
/-! TX7: the promise of an own exception's __init__(self, value): super().__init__(value); self.value = value. And raise C(e). -/
namespace TL
open PySem PySem.Spec PyProof.Rows L2

/-- what __init__ is asked of its scope -/
structure IniScope (scope : Scope) : Prop where
  kind : scope.kind = .function
  co : scope.isCoroutine = false
  gen : scope.isGenerator = false
  ls : scope.names.lookup ("self" : Str) = some .local
  lv : scope.names.lookup ("value" : Str) = some .local
  lc : scope.names.lookup ("__class__" : Str) = some .free
  lu : scope.names.lookup ("super" : Str) = some .globalImplicit
  nc : ∀ x ∈ scope.names, x.2 ≠ .cell
  fr : ∀ x ∈ scope.names, x.2 = .free → x.1 = "__class__"
/-- the context of such a body -/
def cxI (P : Program) (w : World) (K : PySem.W.Frag) (mg : Str → Option Value) (base : Heap) (qual : Str) (scope : Scope) (f cc : Addr) (cd : Value) (A : Around) (outer : List Env) (s : Shared) (H : Hp) (E : XK) : Cx where
  prog := P
  w := w
  K := K
  mg := mg
  base := base
  A := A.deeper (PySem.W.ksEnv qual scope s.heap.objs.size f cd cc)
  N := ["self", "value"]
  s_0 := s
  H_0 := H
  env := PySem.W.ksEnv qual scope s.heap.objs.size f cd cc
  outer := outer
  stack := PySem.W.ksEnv qual scope s.heap.objs.size f cd cc :: outer
  ex := []
  calm := true
  fn := fun _ => false
  pn := []
  xe := fun e s' => wpAny (model P w) (A.deeper (PySem.W.ksEnv qual scope s.heap.objs.size f cd cc)) (leaving (PySem.W.ksEnv qual scope s.heap.objs.size f cd cc) e) (fun _ s'' => L2.CX P w outer H s E e s'') (fun e' s'' => L2.CX P w outer H s E e' s'') s'
section
variable {P : Program} {w : World} {K : PySem.W.Frag} {mg : Str → Option Value} {base : Heap} {qual : Str} {scope : Scope} {f cc : Addr} {cd : Value} {A : Around} {outer : List Env} {s : Shared} {H : Hp} {E : XK} {u0 u1 : Value} {v0 v1 : V}
theorem inv_init (S : IniScope scope) (hd : A.handled = none) (e0 : Env0 P w K mg base A outer s H) (held : ∃ (cl : Value) (cd : Option Addr) (v : Option Value) (sl : Array (Option Value)), K.lookup cc = some ⟨cl, cd, .cell v, sl⟩) (r0 : RelV v0 u0) (r1 : RelV v1 u1) {h1 : Heap} {tk : Nat}
    (ns : h1.Ns s.heap.objs.size (fun x => [(("self" : Str), u0), ("value", u1)].reverse.lookup x)) (hk : ∀ b o, s.heap.get? b = some o → h1.get? b = some o) :
    Inv (cxI P w K mg base qual scope f cc cd A outer s H E) [] [some v0, some v1] H { s with heap := h1, toks := tk } := by
  have noA : ∀ b : Addr, b ∉ (cxI P w K mg base qual scope f cc cd A outer s H E).ex := fun b z => absurd (show b ∈ ([] : List Addr) from z) (by simp)
  obtain ⟨cl, cdd, cv, sl, hl⟩ := held
  have hb := e0.mod.kin _ _ hl
  have only : ∀ {x : Str} {c : Addr}, (cxI P w K mg base qual scope f cc cd A outer s H E).env.cells.lookup x = some c → x = "__class__" ∧ c = cc := fun {x c} e => by
    have e' : ([(("__class__" : Str), cc)] : List (Str × Addr)).lookup x = some c := e
    rw [List.lookup] at e'
    split at e'
    · rename_i z
      cases e'
      exact ⟨by simpa using z, rfl⟩
    · cases e'
  refine ⟨⟨e0.mod, S.kind, rfl, rfl, Nat.le_refl _, fun x y c h1 h2 => (only h1).1.trans (only h2).1.symm, fun y hy => ?_, (fun y c z _ => nomatch z), fun _ => hd, Around.frames_deeper e0.frames, .inr ⟨rfl, rfl⟩, fun b z => absurd z (noA b), e0.bs, e0.bsz, fun b _ _ => noA b, fun b z => absurd z (noA b), e0.funs, e0.frf⟩,
    rfl, e0.bare, Un.kept hk, ⟨_, ns, fun i y v h1 h2 h3 => ?_⟩, fun y c h => ?_, e0.hok.fresh (Nat.le_refl _), fun y c h => ?_, fun p hp => absurd (show p ∈ ([] : List (Addr × Obj)) from hp) (by simp), e0.hok.kept hk, rfl⟩
  · have hy : scope.names.lookup y = some .cell ∨ scope.names.lookup y = some .free := hy
    rcases hy with hy | hy
    · exact absurd rfl (S.nc _ (PySem.mem_of_lookup hy))
    · have e := S.fr _ (PySem.mem_of_lookup hy) rfl
      have e : y = "__class__" := e
      subst e
      exact ⟨cc, by show ([(("__class__" : Str), cc)] : List (Str × Addr)).lookup ("__class__" : Str) = some cc; simp [List.lookup]⟩
  · match i, h1, h2 with
    | 0, h1, h2 =>
      cases h1
      cases h2
      exact ⟨u0, r0, .inl ⟨S.ls, by simp [List.lookup]; rfl⟩⟩
    | 1, h1, h2 =>
      cases h1
      cases h2
      exact ⟨u1, r1, .inl ⟨S.lv, by simp [List.lookup]⟩⟩
    | i + 2, h1, h2 => simp [cxI] at h1
  · obtain ⟨_, rfl⟩ := only h
    exact ⟨cv, ⟨_, hk _ _ (e0.bs _ _ hb).1, rfl⟩⟩
  · obtain ⟨_, rfl⟩ := only h
    exact (e0.bs _ _ hb).2
end
/-- what __init__ of LoneError promises, called with an instance just made of a class that stands under LoneError's class D -/
def spI (K : PySem.W.Frag) (D : Addr) : Sp := fun vs H Q _ => ∃ (a C : Addr) (v : V), vs = [.ref a, v] ∧ H a = some (exo a C none) ∧ OexC K C ∧ SupC K C D ∧ PySem.W.findIn K (.ref C) "value" = some none ∧
  ∀ dx, H dx = none → dx ≠ a → Q .non (upd (upd H dx (exd dx [("value", v)])) a (exo a C (some dx)))
/-- what the written part says of __init__ -/
structure IniK (K : PySem.W.Frag) (P : Program) (mg : Str → Option Value) (qual : Str) (params : Arguments) (body : List Stmt) (scope : Scope) (D f cc cda : Addr) (fd : FuncData) : Prop where
  lk : ∃ (oc : Value) (od an : Option Addr) (osl : Array (Option Value)) (dV kV doc pm ct : Value), fd = PySem.W.ksFn "__init__" qual params body scope dV kV doc pm an (.ref cda) ct cc ∧ K.lookup f = some ⟨oc, od, .func fd, osl⟩
  par : ∃ ar : Arg, (params.posonlyargs ++ params.args).head? = some ar ∧ ar.arg = "self"
  cd : PySem.W.codeIn K (.ref cda) qual = true
  code : ∃ (cl : Value) (cd : Option Addr) (vs : Array Value) (sl : Array (Option Value)) (file : Str) (tf : Tok), K.lookup cda = some ⟨cl, cd, .fields vs, sl⟩ ∧ vs[2]? = some (.str file tf) ∧ ((P.main.file : Str) == file) = true
  top : (P.main.scope.names.lookup ("super" : Str)).isSome = false
  held : ∃ (cl : Value) (cd : Option Addr) (sl : Array (Option Value)), K.lookup cc = some ⟨cl, cd, .cell (some (.ref D)), sl⟩
  mg : mg "super" = none
  clsD : ∃ cd, PySem.W.clsIn K D = some cd
  ops : PySem.W.nsIn K cStatics "thirdparty.any" = some none
theorem call_at {env : Env} {p0 p1 p2 p3 p4 : Pos} (hline : (p2.endLine == p4.line) = true) : eval (.Call (.Attribute (.Call (.Name "super" p0) [] [] p1) "__init__" p2) [.Name "value" p3] [] p4) env = (do
      let ov ← attributeBase (.Call (.Name "super" p0) [] [] p1) "__init__" env (eval (.Call (.Name "super" p0) [] [] p1) env)
      standAt p2.atName
      let (f, first) ← holding [ov] (getMethod ov "__init__" (do return (← importBound (.Call (.Name "super" p0) [] [] p1) env).getD true))
      callWith p4 f first (backTo p4 (starEach [.Name "value" p3] env)) []) := by
  show (do
    let ov ← attributeBase (.Call (.Name "super" p0) [] [] p1) "__init__" env (eval (.Call (.Name "super" p0) [] [] p1) env)
    standAt p2.atName
    methodCall (.Call (.Name "super" p0) [] [] p1) "__init__" p2 p4 env ov 1 (backTo p4 (starEach [.Name "value" p3] env)) (backToKw p4 (keywordEach [] env))) = _
  unfold methodCall methodCallPos
  simp only [hline, Bool.or_true, if_true]
  rfl
theorem init_G {P : Program} {w : World} {K : PySem.W.Frag} {mg : Str → Option Value} {base : Heap} {k : Nat} {qual : Str} {params : Arguments} {body : List Stmt} {scope : Scope} {D f cc cda : Addr} {fd : FuncData} (S : IniScope scope)
    (Z : IniK K P mg qual params body scope D f cc cda fd) {p0 p1 p2 p3 p4 p5 p6 p7 p8 p9 : Pos} (hline : (p2.endLine == p4.line) = true) (hb : body = [.Expr (.Call (.Attribute (.Call (.Name "super" p0) [] [] p1) "__init__" p2) [.Name "value" p3] [] p4) p5, .Assign [.Attribute (.Name "self" p6) "value" p7] (.Name "value" p8) p9]) :
    FnG P w K mg base (k + 1) f fd ["self", "value"] (spI K D) := by
  obtain ⟨oc, od, an, osl, dV, kV, doc, pm, ct, rfl, lk⟩ := Z.lk
  refine ⟨fun vs H Q E ⟨a, C, v, e, _⟩ => by subst e; rfl, fun A outer s H args us vs Q E hg hr e0 hbd r h => ?_⟩
  obtain ⟨a, C, v, rfl, ea, O, T, no, q⟩ := h
  match us, r with
  | [u0, u1], .cons r0 (.cons r1 .nil) =>
  have r0' : u0 = Value.ref a := r0
  subst r0'
  have kin : K.In s.heap := e0.mod.kin.keeps fun b o e => (e0.bs b o e).1
  have lim : s.heap.NoLimit := e0.mod.nolimit.keeps fun b o e => (e0.bs b o e).1
  obtain ⟨cl, cdd, sl, hl⟩ := Z.held
  refine ks_codeAny_call_defAt (binds := [("self", .ref a), ("value", u1)]) hr.depth (kin _ _ lk) rfl lim (PySem.W.codeRec_of kin Z.cd) rfl (hbd) S.nc (fun y hy => ?_) (fun h₀ ns hk => ?_) S.co S.gen S.kind
  · rcases List.mem_cons.mp hy with rfl | hy
    · exact S.ls
    · rcases List.mem_cons.mp hy with rfl | hy
      · exact S.lv
      · cases hy
  let X := cxI P w K mg base qual scope f cc (.ref cda) A outer s H E
  have I : Inv X [] [some (.ref a), some v] H { s with heap := h₀, toks := s.toks + 2 } := inv_init S hr.hd e0 ⟨_, _, _, _, hl⟩ r0 r1 ns hk
  have vs0 : Vis X.env.scope "self" := .inl S.ls
  have vs1 : Vis X.env.scope "value" := .inl S.lv
  obtain ⟨ar, h1, h2⟩ := Z.par
  have SX : SupX X D cc f cda := ⟨S.lu, S.lc, S.ls, rfl, ⟨oc, od, _, osl, ar, lk, h1, h2⟩, rfl, Z.code, Z.top, by show ([(("__class__" : Str), cc)] : List (Str × Addr)).lookup ("__class__" : Str) = some cc; simp [List.lookup], ⟨cl, cdd, sl, hl⟩, Z.mg, Z.clsD, Z.ops⟩
  have hp2 : PE X (.Name "value" p3) (tVar 1) := pe_var (X := X) (i := 1) rfl vs1
  subst hb
  refine ks_wpAt_execs_cons (ks_wpAt_mono (sup_stmt (X := X) (ta := tCons (tVar 1) tNil) (pl := _) SX T O I rfl rfl vs0 ea (pa_cons hp2 pa_nil) ?_ (call_at hline))  (fun fl s1 hq => ?_) fun _ _ z => z)
  · exact ⟨v, rfl, rfl, by simp⟩
  · obtain ⟨rfl, I1⟩ := hq
    have st2 : PS X (.Assign [.Attribute (.Name "self" p6) "value" p7] (.Name "value" p8) p9) (tOst X.K "value" (tVar 0) (tVar 1)) := ps_ost (pe_var (X := X) (i := 0) rfl vs0) (pe_var (X := X) (i := 1) rfl vs1)
    refine wpAt_of_wpAny (wpAny_mono ((pss_one st2).run [] s1 _ H { nx := fun _ H' => Q .non H', rt := Q } I1 ?_) (fun fl s2 hs => ?_) fun _ _ z => z)
    · exact ⟨v, rfl, .ref a, rfl, a, C, rfl, O, no, .inl ⟨ea, fun dx n ne => q dx n ne⟩⟩
    · cases fl with
      | next =>
        obtain ⟨σ', H', J', q'⟩ := hs
        exact ⟨.non, H', J'.os, J'.bare, J'.base, J'.hok, rfl, q'⟩
      | ret u =>
        obtain ⟨v', σ', H', J', rv, q'⟩ := hs
        exact ⟨v', H', J'.os, J'.bare, J'.base, J'.hok, rv, q'⟩
      | brk =>
        obtain ⟨_, _, _, q'⟩ := hs
        exact q'.elim
      | cont =>
        obtain ⟨_, _, _, q'⟩ := hs
        exact q'.elim
end TL
/-! TX8: raise C(e). -/
namespace TL
open PySem PySem.Spec PyProof.Rows L2
/-- C(e), C's own or inherited __init__ keeping spI -/
def tMkI (K : PySem.W.Frag) (D C : Addr) (ta : TA) : L2.St → Hp → XK → Prop := fun σ H Q => ta σ H fun vs H1 => ∃ v, vs = [v] ∧ ∀ a d, H1 a = none → H1 d = none → d ≠ a → Q (.ref C) (some d) (upd H1 d (.xd [("value", v)]))
section
variable {X : Cx} {x : Str} {C D fI : Addr} {k : Nat} {fd : FuncData} {p pos : Pos} {e : Expr} {ta : TA} {T : Th}
theorem pmk_G (O : OexC X.K C) (S : SupC X.K C D) (no : PySem.W.findIn X.K (.ref C) "value" = some none) (iC : PySem.W.findIn X.K (.ref C) "__init__" = some (some (.ref fI))) (tI : PySem.W.typeIn X.K (.ref fI) = some (.type "function"))
    (F1 : FnG X.prog X.w X.K X.mg X.base k fI fd ["self", "value"] (spI X.K D)) (hg : X.A.guards = some []) (hr : Room (k + 1) X.A) (hb : Binds X.K fd ["self", "value"] []) (tk : Takes X T.wx) (gl : Gl X x) (hm : X.mg x = some (.ref C)) (ha : PA X [e] ta)
    (hdb : (x == ("__debug__" : Str)) = false) (hs : starEach [e] X.env = (false, eval e X.env) :: starEach [] X.env) : PMk X (.Call (.Name x p) [e] [] pos) (tMkI X.K D C ta) := by
  intro pins s σ H Q I h
  obtain ⟨nm, q, N, bs, bm, sn, sub, ab, col, dd, k0, k1, k2, k3, k5, hC, hbm⟩ := O.cls
  refine wpAny_Call_Name_kw (ld_glob I gl hm ?_ hdb)
  refine PySem.W.callWith_K (h₀ := X.base) I.ok.mod.kin O.kC (thn (ha.run pos pins s σ H _ I h) fun us s1 ⟨vs, H1, I1, r1, v, hv, q1⟩ => ⟨I1.kIn, ?_⟩) hs rfl
  subst hv
  show wpAny _ _ (call (.ref C) us) _ _ _
  obtain ⟨hp, g, dr, tk', os⟩ := s1
  have hsz : hp.objs.size ≤ hp.objs.size + 1 := Nat.le_succ _
  have hn : H1 (hp.objs.size + 1) = none := I1.hok.fresh hsz
  have kk : ∀ b o, hp.get? b = some o → ((hp.push (PySem.W.kdv_tup us)).push (PySem.HandSPX.excO C hp.objs.size)).get? b = some o := fun b o e => Heap.get?_push_of_some _ (Heap.get?_push_of_some _ e)
  have hget : ((hp.push (PySem.W.kdv_tup us)).push (PySem.HandSPX.excO C hp.objs.size)).get? (hp.objs.size + 1) = some (PySem.HandSPX.excO C hp.objs.size) := by heap_get
  have I2 : Inv X pins σ (upd H1 (hp.objs.size + 1) (exo (hp.objs.size + 1) C none)) ⟨(hp.push (PySem.W.kdv_tup us)).push (PySem.HandSPX.excO C hp.objs.size), g, dr, tk', os⟩ :=
    I1.laid (t' := tk') (a := hp.objs.size + 1) (o := exo (hp.objs.size + 1) C none) (h' := (hp.push (PySem.W.kdv_tup us)).push (PySem.HandSPX.excO C hp.objs.size)) kk hsz (exo_ok hget)
  have r2 : Vals (V.ref (hp.objs.size + 1) :: [v]) (Value.ref (hp.objs.size + 1) :: us) := .cons rfl r1
  have hus : us.length ≤ sizeLine := by
    rw [← Paired.length r1, sizeLine_eq]
    simp
  have hl : (Value.ref (hp.objs.size + 1) :: us).length = (["self", "value"] : List Str).length := by
    rw [List.length_cons, ← Paired.length r1]; rfl
  have hb' : BindsTo ⟨(hp.push (PySem.W.kdv_tup us)).push (PySem.HandSPX.excO C hp.objs.size), g, dr, tk', os⟩ fd ⟨Value.ref (hp.objs.size + 1) :: us, []⟩ ((["self", "value"] : List Str).zip (Value.ref (hp.objs.size + 1) :: us)) := by
    have b := hb ⟨(hp.push (PySem.W.kdv_tup us)).push (PySem.HandSPX.excO C hp.objs.size), g, dr, tk', os⟩ (Value.ref (hp.objs.size + 1) :: us) I2.kIn (by rw [List.append_nil]; exact hl)
    rw [List.append_nil] at b
    exact b
  refine wpAny_call (PySem.HandSPX.call_own F.excBase_ValueError (fun Y => PySem.HandSPX.refsVE_contains Y bm hbm) (I1.kIn _ _ hC) (PySem.W.looks_findIn I1.kIn iC) (fun self => PySem.W.bind_fn I1.kIn self tI) hus
    (codeAny_mono (F1.run _ X.stack _ _ ⟨Value.ref (hp.objs.size + 1) :: us, []⟩ (Value.ref (hp.objs.size + 1) :: us) _ (fun w H2 => w = .non ∧ ∃ dx, H1 dx = none ∧ dx ≠ hp.objs.size + 1 ∧ H2 = upd (upd (upd H1 (hp.objs.size + 1) (exo (hp.objs.size + 1) C none)) dx (exd dx [("value", v)])) (hp.objs.size + 1) (exo (hp.objs.size + 1) C (some dx))) (fun _ _ _ => False) ?_ (hr.make C us []) (I2.env0.make C us []) hb' r2 ?_) fun r s' hq' => ?_))
  · exact hg
  · refine ⟨hp.objs.size + 1, C, v, rfl, upd_same, O, S, no, fun dx n ne => ⟨rfl, dx, ?_, ne, rfl⟩⟩
    rw [upd_ne ne] at n
    exact n
  · cases r with
    | error er => exact tk er s' (XE.of_call I2 (fun _ _ _ z => z.elim) hq')
    | ok fl =>
      cases fl with
      | ret u =>
        obtain ⟨v', H2, os2, bare2, un2, hok2, rv, ev, dx, nd, ne, eH⟩ := hq'
        subst ev
        obtain ⟨h2, g2, d2, t2, os'⟩ := s'
        subst eH
        have e1 : upd (upd (upd H1 (hp.objs.size + 1) (exo (hp.objs.size + 1) C none)) dx (exd dx [("value", v)])) (hp.objs.size + 1) (exo (hp.objs.size + 1) C (some dx)) (hp.objs.size + 1) = some (exo (hp.objs.size + 1) C (some dx)) := upd_same
        have e2 : upd (upd (upd H1 (hp.objs.size + 1) (exo (hp.objs.size + 1) C none)) dx (exd dx [("value", v)])) (hp.objs.size + 1) (exo (hp.objs.size + 1) C (some dx)) dx = some (exd dx [("value", v)]) := by rw [upd_ne ne]; exact upd_same
        refine ⟨rv, mk_end (raises_own O.exC O.tyC) I1 hsz kk un2 hok2 os2 bare2 e1 e2 nd ?_⟩
        have eq : upd (del (upd (upd (upd H1 (hp.objs.size + 1) (exo (hp.objs.size + 1) C none)) dx (exd dx [("value", v)])) (hp.objs.size + 1) (exo (hp.objs.size + 1) C (some dx))) (hp.objs.size + 1)) dx (.xd [("value", v)]) = upd H1 dx (.xd [("value", v)]) := by
          funext b
          by_cases hb1 : b = dx
          · rw [hb1, upd_same, upd_same]
          · rw [upd_ne hb1, upd_ne hb1]
            by_cases hb2 : b = hp.objs.size + 1
            · rw [hb2, del_same, hn]
            · rw [del_ne hb2, upd_ne hb2, upd_ne hb1, upd_ne hb2]
        rw [eq]
        exact q1 _ dx hn nd ne
      | next => exact False.elim hq'
      | brk => exact False.elim hq'
      | cont => exact False.elim hq'
end
end TL
/-! TXC: what the written part says of the exception classes of a program. -/
namespace TL
open PySem PySem.Spec PyProof.Rows L2
structure ExK (K : PySem.W.Frag) (C : Addr) : Prop where
  ec : ExcC K C
  xf : XfC K C
  no : PySem.W.findIn K (.ref C) "value" = some none
  ve : PySem.W.kitOne K (.ref C) (.type "ValueError") = some true
/-- how a class is raised -/
def RseK (P : Program) (w : World) (K : PySem.W.Frag) (mg : Str → Option Value) (base : Heap) (C : Addr) : Prop :=
  ∃ (D fI : Addr) (fd : FuncData), OexC K C ∧ SupC K C D ∧ PySem.W.findIn K (.ref C) "value" = some none ∧ PySem.W.findIn K (.ref C) "__init__" = some (some (.ref fI)) ∧ PySem.W.typeIn K (.ref fI) = some (.type "function") ∧ Binds K fd ["self", "value"] [] ∧
    ∀ k, FnG P w K mg base (k + 1) fI fd ["self", "value"] (spI K D)
variable [Plc]
structure ClsK (K : PySem.W.Frag) (C : Addr) (cs : List Nat) : Prop where
  exm : ∀ (j : Nat) (D : Addr), Plc.ca j D → PySem.W.exmOne K (.ref D) (.ref C) = some (cs.contains j)
  kit : ∀ (j : Nat) (D : Addr), Plc.ca j D → PySem.W.kitOne K (.ref D) (.ref C) = some (cs.contains j)
  non : ∀ t : K7, PySem.W.kitOne K (.type t.name) (.ref C) = some false
/-- how the language's exceptions lie -/
def xrP : XR := fun W H c fs cls d => ∃ (C dd : Addr) (v : V) (e : D), cls = .ref C ∧ d = some dd ∧ Plc.ca c C ∧ ¬ W dd ∧ H dd = some (.xd [("value", v)]) ∧ fs = [e] ∧ Rp W H v e
end TL
/-! TLQ: trees that hold their lists alone; the promise of _law_marked. -/
namespace TL
open PySem PySem.Spec PyProof.Rows L2
variable [Plc]
abbrev W0 : Addr → Prop := fun _ => False
mutual
inductive Dq (H : Hp) : V → D → List Addr → Prop
  | imm {v : V} {d : D} : immD d = true → Rp W0 H v d → Dq H v d []
  | lst {a : Addr} {xs : List V} {ds : List D} {L : List Addr} : xs.length ≤ sizeLine → H a = some (.lst xs) → DqA H xs ds L → a ∉ L → Dq H (.ref a) (.list ds) (a :: L)
inductive DqA (H : Hp) : List V → List D → List Addr → Prop
  | nil : DqA H [] [] []
  | cons {v : V} {vs : List V} {d : D} {ds : List D} {L M : List Addr} : Dq H v d L → DqA H vs ds M → (∀ b, b ∈ L → b ∉ M) → DqA H (v :: vs) (d :: ds) (L ++ M)
end
/-- a tuple -/
def IsT (x : HO) : Prop := (∃ ys, x = .tup ys) ∨ ∃ o ys, x = .frz o (.tup ys)
theorem IsT.no {xs : List V} (h : IsT (.lst xs)) : False := by
  rcases h with ⟨_, z⟩ | ⟨_, _, z⟩ <;> cases z
/-- all stands but at L -/
def Off (L : List Addr) (H H' : Hp) : Prop := ∀ b x, H b = some x → b ∉ L → H' b = some x
def NoLess (H H' : Hp) : Prop := ∀ b, H' b = none → H b = none
section
variable {H H' : Hp}
mutual
theorem imm_keep (k : ∀ b x, H b = some x → IsT x → H' b = some x) : ∀ (d : D) (v : V), immD d = true → Rp W0 H v d → Rp W0 H' v d
  | .none, _, _, h => by cases h; exact .non
  | .bool b, _, _, h => by cases h; exact .bl b
  | .int i, _, _, h => by cases h; exact .int i
  | .str x, _, _, h => by cases h; exact .str x
  | .list ds, _, i, _ => by rw [immD] at i; cases i
  | .dict ds, _, i, _ => by rw [immD] at i; cases i
  | .tuple ds, _, i, h => by
    cases h with
    | tup n l r q =>
      refine .tup n l ?_ (immA_keep k ds _ (by rw [immD] at i; exact i) q)
      rcases r with r | ⟨o, r⟩
      · exact .inl (k _ _ r (.inl ⟨_, rfl⟩))
      · exact .inr ⟨o, k _ _ r (.inr ⟨_, _, rfl⟩)⟩
theorem immA_keep (k : ∀ b x, H b = some x → IsT x → H' b = some x) : ∀ (ds : List D) (vs : List V), immA ds = true → RpA W0 H vs ds → RpA W0 H' vs ds
  | [], _, _, h => by cases h; exact .nil
  | d :: ds, _, i, h => by
    rw [immA, Bool.and_eq_true] at i
    cases h with
    | cons h1 h2 => exact .cons (imm_keep k d _ i.1 h1) (immA_keep k ds _ i.2 h2)
end
mutual
theorem Dq.keep : ∀ (d : D) (v : V) (L : List Addr), (∀ b x, H b = some x → (b ∈ L ∨ IsT x) → H' b = some x) → Dq H v d L → Dq H' v d L
  | .list ds, _, _, k, h => by
    cases h with
    | imm i r => rw [immD] at i; cases i
    | @lst a xs _ L l e q n => exact .lst l (k _ _ e (.inl List.mem_cons_self)) (DqA.keep ds _ L (fun b x e' h => k b x e' (h.imp (List.mem_cons_of_mem _) id)) q) n
  | .none, _, _, k, h => by cases h with | imm i r => exact .imm i (imm_keep (fun b x e n => k b x e (.inr n)) _ _ i r)
  | .bool b, _, _, k, h => by cases h with | imm i r => exact .imm i (imm_keep (fun b x e n => k b x e (.inr n)) _ _ i r)
  | .int b, _, _, k, h => by cases h with | imm i r => exact .imm i (imm_keep (fun b x e n => k b x e (.inr n)) _ _ i r)
  | .str b, _, _, k, h => by cases h with | imm i r => exact .imm i (imm_keep (fun b x e n => k b x e (.inr n)) _ _ i r)
  | .tuple b, _, _, k, h => by cases h with | imm i r => exact .imm i (imm_keep (fun b x e n => k b x e (.inr n)) _ _ i r)
  | .dict b, _, _, k, h => by cases h with | imm i r => exact .imm i (imm_keep (fun b x e n => k b x e (.inr n)) _ _ i r)
theorem DqA.keep : ∀ (ds : List D) (vs : List V) (L : List Addr), (∀ b x, H b = some x → (b ∈ L ∨ IsT x) → H' b = some x) → DqA H vs ds L → DqA H' vs ds L
  | [], _, _, k, h => by cases h; exact .nil
  | d :: ds, _, _, k, h => by
    cases h with
    | cons h1 h2 n => exact .cons (Dq.keep d _ _ (fun b x e q => k b x e (q.imp (List.mem_append_left _) id)) h1) (DqA.keep ds _ _ (fun b x e q => k b x e (q.imp (List.mem_append_right _) id)) h2) n
end
mutual
theorem Dq.rp : ∀ (d : D) (v : V) (L : List Addr), Dq H v d L → Rp W0 H v d
  | .list ds, _, _, h => by
    cases h with
    | imm i r => exact r
    | lst l e q n => exact .lst (fun z => z) l (.inl e) (DqA.rp ds _ _ q)
  | .none, _, _, h => by cases h with | imm i r => exact r
  | .bool b, _, _, h => by cases h with | imm i r => exact r
  | .int b, _, _, h => by cases h with | imm i r => exact r
  | .str b, _, _, h => by cases h with | imm i r => exact r
  | .tuple b, _, _, h => by cases h with | imm i r => exact r
  | .dict b, _, _, h => by cases h with | imm i r => exact r
theorem DqA.rp : ∀ (ds : List D) (vs : List V) (L : List Addr), DqA H vs ds L → RpA W0 H vs ds
  | [], _, _, h => by cases h; exact .nil
  | d :: ds, _, _, h => by
    cases h with
    | cons h1 h2 n => exact .cons (Dq.rp d _ _ h1) (DqA.rp ds _ _ h2)
end
mutual
theorem Dq.all : ∀ (d : D) (v : V) (L : List Addr), Dq H v d L → ∀ b, b ∈ L → ∃ xs, H b = some (.lst xs)
  | .list ds, _, _, h => by
    cases h with
    | imm i r => exact fun b z => by cases z
    | lst l e q n =>
      intro b z
      rcases List.mem_cons.mp z with z | z
      · rw [z]; exact ⟨_, e⟩
      · exact DqA.all ds _ _ q b z
  | .none, _, _, h => by cases h with | imm i r => exact fun b z => by cases z
  | .bool b, _, _, h => by cases h with | imm i r => exact fun b z => by cases z
  | .int b, _, _, h => by cases h with | imm i r => exact fun b z => by cases z
  | .str b, _, _, h => by cases h with | imm i r => exact fun b z => by cases z
  | .tuple b, _, _, h => by cases h with | imm i r => exact fun b z => by cases z
  | .dict b, _, _, h => by cases h with | imm i r => exact fun b z => by cases z
theorem DqA.all : ∀ (ds : List D) (vs : List V) (L : List Addr), DqA H vs ds L → ∀ b, b ∈ L → ∃ xs, H b = some (.lst xs)
  | [], _, _, h => by cases h; exact fun b z => by cases z
  | d :: ds, _, _, h => by
    cases h with
    | cons h1 h2 n => exact fun b z => (List.mem_append.mp z).elim (Dq.all d _ _ h1 b) (DqA.all ds _ _ h2 b)
end
theorem DqA.len : ∀ {vs : List V} {ds : List D} {L : List Addr}, DqA H vs ds L → vs.length = ds.length
  | _, _, _, .nil => rfl
  | _, _, _, .cons _ t _ => by rw [List.length_cons, List.length_cons, DqA.len t]
/-- what is written elsewhere -/
theorem off_keep {L M : List Addr} (o : Off M H H') (m : ∀ b, b ∈ M → ∃ xs, H b = some (.lst xs)) (d : ∀ b, b ∈ L → b ∉ M) : ∀ b x, H b = some x → (b ∈ L ∨ IsT x) → H' b = some x := fun b x e h => by
  refine o b x e fun z => ?_
  rcases h with h | h
  · exact d b h z
  · obtain ⟨xs, e2⟩ := m b z
    rw [e] at e2
    cases e2
    exact h.no
end
/-- _law_marked, of a tree of depth below n -/
def spM (n : Nat) : Sp := fun vs H Q E => ∃ v d L, vs = [v] ∧ Dq H v d L ∧ d.depth < n ∧ markD d = true ∧ ∀ H', Off L H H' → NoLess H H' → Q (.bl true) H'
end TL
/-! TL16: is an expression of the program the one that the language's text says? -/
namespace TL
open PySem PySem.Spec PyProof.Rows L2
variable [Plc]

/-- a block's names: how each is bound, the places, the cells that are the block's own -/
structure BC where
  names : List (Str × NameKind)
  N : List Str
  own : List Str

def star? : Expr → Bool
  | .Starred _ _ => true
  | _ => false
def comp? : Expr → Bool
  | .ListComp _ _ _ _ => true
  | .SetComp _ _ _ _ => true
  | .DictComp _ _ _ _ _ => true
  | _ => false
def setE? : Expr → Bool
  | .Set _ _ _ => true
  | _ => false
def slice? : Expr → Bool
  | .Slice _ _ _ _ => true
  | _ => false
/-- truth of such an expression is its value's -/
def plainT : Expr → Bool
  | .UnaryOp .Not _ _ => false
  | .BoolOp _ _ _ => false
  | .IfExp _ _ _ _ => false
  | .Compare _ _ _ _ => false
  | _ => true
/-- the receiver of a method is evaluated as it stands -/
def baseOk : Expr → Bool
  | .Call _ _ _ _ => false
  | _ => true
def dunder (x : Str) : Bool := (x == ("__debug__" : Str)) || (x == ("__classdict__" : Str)) || (x == ("__name__" : Str))
def visB (B : BC) (x : Str) : Bool :=
  match B.names.lookup x with
  | some .local => true
  | some .cell => true
  | some .free => true
  | _ => false
def rdB? (B : BC) (i : Nat) (x : Str) : Bool := decide (B.N[i]? = some x) && visB B x && !dunder x
def glB (B : BC) (x : Str) : Bool := decide (B.names.lookup x = some .globalImplicit) && !dunder x
def stB (B : BC) (i : Nat) (x : Str) : Bool := decide (B.N[i]? = some x) && (decide (B.names.lookup x = some .local) || (decide (B.names.lookup x = some .cell) && B.own.contains x))
def kOk : D → Const → Bool
  | .none, .none => true
  | .bool a, .bool b => a == b
  | .int i, .int j => i == j
  | .str x, .str y => decide (x = y)
  | _, _ => false
def fnName (G : List Fn) (f : Nat) (x : Str) : Bool :=
  match G[f]? with
  | some F => decide (F.name = x) && F.kc.isNone
  | none => false
def kwFit (G : List Fn) (f m : Nat) (ks : List (Option Str)) : Bool :=
  match G[f]? with
  | some F => F.kw.contains m && decide (ks = ((F.N.take F.np).drop m).map some)
  | none => false
def kpFit (G : List Fn) (f m : Nat) (kn : List Str) (pm : List Nat) (ks : List (Option Str)) : Bool :=
  match G[f]? with
  | some F => F.kp.contains (m, kn, pm) && decide (ks = kn.map some) && decide pm.Nodup && decide (pm.length = (F.N.take F.np).length)
  | none => false
def mTys (B : BC) : List Ty → List Expr → Bool
  | [], [] => true
  | t :: ts, .Name ty _ :: es => decide (ty = Str.ofString t.name) && glB B ty && mTys B ts es
  | _, _ => false
def sameK : D → D → Bool
  | .none, .none => true
  | .bool a, .bool b => a == b
  | .int i, .int j => i == j
  | .str x, .str y => decide (x = y)
  | _, _ => false
def clName (G : List Fn) (c : Nat) (x : Str) : Bool :=
  match G[c]? with
  | some F => decide (F.name = x) && F.cl.isSome
  | none => false
def clOf (G : List Fn) (c : Nat) (x : Str) (cs : List Nat) : Bool :=
  match G[c]? with
  | some F => decide (F.name = x) && decide (F.cl = some cs)
  | none => false
def cName (G : List Fn) (f : Nat) (x : Str) (d : D) : Bool :=
  match G[f]? with
  | some F => decide (F.name = x) && (match F.kc with | some e => sameK e d | none => false)
  | none => false
def revAt : Expr → Bool
  | .Slice none none (some (.UnaryOp .USub (.Constant (.int 1) _ _) _)) _ => true
  | _ => false
def mTgs (B : BC) : List Nat → List Expr → Bool
  | [], [] => true
  | i :: is, .Name x _ :: es => stB B i x && mTgs B is es
  | _, _ => false
def mTg (B : BC) : Tg → Expr → Bool
  | .nm i, .Name x _ => stB B i x
  | .tp is, .Tuple es _ _ => mTgs B is es
  | _, _ => false
def relN (names : List (Str × NameKind)) (B : BC) : List (Str × NameKind) := names.map fun (n, k) => if (k == .free && B.names.lookup n == some .cell) then (n, .cell) else (n, k)
def blkB (scope : Scope) (B : BC) : BC := ⟨relN scope.names B, B.N, scope.names.filterMap fun p => if scope.names.lookup p.1 = some .cell then some p.1 else none⟩
def ownL (B : BC) (vs : List Nat) : List (Str × Nat) := vs.map fun i => ((B.N[i]?).getD Str.empty, i)
def scOf (B : BC) : Scope := { kind := .function, names := B.names, isGenerator := false, isCoroutine := false }
def singOk : Sing → Const → Bool
  | .non, .none => true
  | .tru, .bool true => true
  | .fal, .bool false => true
  | _, _ => false
def noStars (es : List Expr) : Bool := es.all fun e => !star? e

mutual
/-- the truth of e is walked by the rules for tests -/
def tOk : E → Expr → Bool
  | .not x, .UnaryOp .Not a _ => tOk x a
  | .and es, .BoolOp .And vs _ => tOks es vs
  | .or es, .BoolOp .Or vs _ => tOks es vs
  | .ife c x y, .IfExp c' a b _ => tOk c c' && tOk x a && tOk y b
  | .cmp _ _ _, .Compare _ [_] [_] _ => true
  | .cmp2 _ _ _ _ _, .Compare _ _ _ _ => true
  | .is _ _ _, .Compare _ _ _ _ => true
  | .nope, _ => true
  | _, ast => plainT ast
def tOks : Es → List Expr → Bool
  | .nil, [] => true
  | .cons x r, a :: as => tOk x a && tOks r as
  | _, _ => false
end
section
variable (G : List Fn)
mutual
def mE : E → BC → Expr → Bool
  | .v i, B, .Name x _ => rdB? B i x
  | .mv i, B, .Name x _ => rdB? B i x
  | .b i, B, .Name x _ => rdB? B i x
  | .k d, _, .Constant c _ _ => kOk d c
  | .bin o x y, B, .BinOp a o' b _ => decide (o = o') && binHas o && mE x B a && mE y B b
  | .g i d, B, .Name x _ => cName G i x d && glB B x
  | .rev x, B, .Subscript a sl _ => revAt sl && mE x B a
  | .join o x, B, .Call (.Attribute a m p) [e] [] q => decide (m = ("join" : Str)) && (p.endLine == q.line) && baseOk a && !star? e && mE o B a && mE x B e
  | .m1 f o x, B, .Call (.Attribute a m p) [e] [] q => decide (m = Str.ofString f.nm) && (p.endLine == q.line) && baseOk a && !star? e && mE o B a && mE x B e
  | .fnd o x, B, .Call (.Attribute a m p) [e] [] q => decide (m = ("find" : Str)) && (p.endLine == q.line) && baseOk a && !star? e && mE o B a && mE x B e
  | .sset x, B, .Call (.Name f1 _) [.Call (.Name f2 _) [e] [] _] [] _ => decide (f1 = ("sorted" : Str)) && decide (f2 = ("set" : Str)) && glB B f1 && glB B f2 && !star? e && mE x B e
  | .bor _ x, B, .Call f vs kws p => mE x B (.Call f vs kws p)
  | .neg x, B, .UnaryOp .USub a _ => mE x B a
  | .cmp o x y, B, .Compare a [o'] [b] _ => decide (o = o') && cmpHas o && !setE? b && mE x B a && mE y B b
  | .cmp2 o p x y z, B, .Compare a [o', p'] [b, c] _ => decide (o = o') && decide (p = p') && cmpHas o && cmpHas p && !setE? b && !setE? c && mE x B a && mE y B b && mE z B c
  | .is x s n, B, .Compare a [o] [.Constant c _ _] _ => decide (o = (if n then .IsNot else .Is)) && singOk s c && mE x B a
  | .and es, B, .BoolOp .And vs _ => !vs.isEmpty && mEs es B vs
  | .or es, B, .BoolOp .Or vs _ => !vs.isEmpty && mEs es B vs
  | .not x, B, .UnaryOp .Not a _ => mE x B a
  | .ife c x y, B, .IfExp c' a b _ => mE c B c' && tOk c c' && mE x B a && mE y B b
  | .tup es, B, .Tuple vs _ _ => noStars vs && mEs es B vs
  | .lst es, B, .List vs _ => noStars vs && mEs es B vs
  | .dct, _, .Dict [] [] _ => true
  | .idx x y, B, .Subscript a b _ => !slice? b && mE x B a && mE y B b
  | .sl x lo hi, B, .Subscript a (.Slice l h none _) _ => mE x B a && mO lo B l && mO hi B h
  | .call f es, B, .Call (.Name x _) vs [] _ => fnName G f x && glB B x && noStars vs && mEs es B vs
  | .callk f es ks, B, .Call (.Name x _) vs kws _ => fnName G f x && glB B x && kwFit G f vs.length (kws.map (·.arg)) && noStars vs && mEs es B vs && mEs ks B (kws.map (·.value))
  | .bi f es, B, .Call (.Name x _) vs [] _ => decide (x = Str.ofString f.nm) && glB B x && !vs.isEmpty && noStars vs && mEs es B vs
  | .me .bitlen o, B, .Call (.Attribute a m p) [] [] q => decide (m = ("bit_length" : Str)) && (p.endLine == q.line) && baseOk a && mE o B a
  | .isi x t, B, .Call (.Name f _) [a, .Name ty _] [] _ => decide (f = ("isinstance" : Str)) && decide (ty = Str.ofString t.name) && glB B f && glB B ty && !star? a && mE x B a
  | .isT x ts, B, .Call (.Name f _) [a, .Tuple tys _ _] [] _ => decide (f = ("isinstance" : Str)) && mTys B ts tys && glB B f && !star? a && mE x B a && decide (ts.length ≤ 8)
  | .callp f es ks kn pm, B, .Call (.Name x _) vs kws _ => fnName G f x && glB B x && kpFit G f vs.length kn pm (kws.map (·.arg)) && noStars vs && mEs es B vs && mEs ks B (kws.map (·.value))
  | .lc vs tg it cs x, B, .ListComp elt [⟨t, i, ifs, z⟩] scope _ => decide (z = 0) && blkC B.N (scOf B) scope (ownL B vs) && !setE? i && (tg.names.all fun j => vs.contains j) &&
      mTg (blkB scope B) tg t && mIt it B t i && mTs cs (blkB scope B) ifs && mE x (blkB scope B) elt
  | .app i x, B, .Call (.Attribute (.Name y _) m p) [a] [] q => rdB? B i y && decide (m = ("append" : Str)) && (p.endLine == q.line) && !star? a && mE x B a
  | .dx x d, B, .Dict [some e] [.Constant c' _ _] _ => mE x B e && kOk d c'
  | .get1 o x, B, .Call (.Attribute a m p) [e] [] q => decide (m = ("get" : Str)) && (p.endLine == q.line) && baseOk a && !star? e && mE o B a && mE x B e
  | .get2 o x y, B, .Call (.Attribute a m p) [e, f] [] q => decide (m = ("get" : Str)) && (p.endLine == q.line) && baseOk a && !star? e && !star? f && mE o B a && mE x B e && mE y B f
  | .lrg1 x, B, .Call (.Name f1 _) [.Call (.Name f2 _) [e] [] _] [] _ => decide (f1 = ("list" : Str)) && decide (f2 = ("range" : Str)) && glB B f1 && glB B f2 && !star? e && mE x B e
  | .lrg2 x y, B, .Call (.Name f1 _) [.Call (.Name f2 _) [e1, e2] [] _] [] _ => decide (f1 = ("list" : Str)) && decide (f2 = ("range" : Str)) && glB B f1 && glB B f2 && !star? e1 && !star? e2 && mE x B e1 && mE y B e2
  | .lenr x, B, .Call (.Name f1 _) [.Call (.Name f2 _) [e] [] _] [] _ => decide (f1 = ("len" : Str)) && decide (f2 = ("range" : Str)) && glB B f1 && glB B f2 && !star? e && mE x B e
  | .pop i, B, .Call (.Attribute (.Name y _) m p) [] [] q => rdB? B i y && decide (m = ("pop" : Str)) && (p.endLine == q.line)
  | .popk i x, B, .Call (.Attribute (.Name y _) m p) [a] [] q => rdB? B i y && decide (m = ("pop" : Str)) && (p.endLine == q.line) && !star? a && mE x B a
  | .lcK vs tg i x, B, .ListComp elt [⟨t, .Name y _, [], z⟩] scope _ => decide (z = 0) && blkC B.N (scOf B) scope (ownL B vs) && (tg.names.all fun j => vs.contains j) && mTg (blkB scope B) tg t && rdB? B i y && mE x (blkB scope B) elt
  | .dk k d, _, .Dict [some (.Constant c _ _)] [.Constant c' _ _] _ => kOk k c && kOk d c' && (keyOf k).isSome
  | .fv i, B, .Name x _ => fnName G i x && glB B x
  | .callv i es, B, .Call (.Name x _) vs [] _ => rdB? B i x && !vs.isEmpty && noStars vs && mEs es B vs
  | .isC x c cs, B, .Call (.Name f _) [a, .Name cx _] [] _ => decide (f = ("isinstance" : Str)) && clOf G c cx cs && glB B f && glB B cx && !star? a && mE x B a
  | .isV x, B, .Call (.Name f _) [a, .Name cx _] [] _ => decide (f = ("isinstance" : Str)) && decide (cx = ("ValueError" : Str)) && glB B f && glB B cx && !star? a && mE x B a
  | .fld x, B, .Attribute e n _ => decide (n = ("value" : Str)) && baseOk e && mE x B e
  | .nope, _, _ => true
  | _, _, _ => false
def mO : Eo → BC → Option Expr → Bool
  | .no, _, none => true
  | .so x, B, some a => mE x B a
  | _, _, _ => false
def mEs : Es → BC → List Expr → Bool
  | .nil, _, [] => true
  | .cons x r, B, a :: as => mE x B a && mEs r B as
  | _, _, _ => false
/-- a comprehension's tests: at most one -/
def mTs : Es → BC → List Expr → Bool
  | .nil, _, [] => true
  | .cons x .nil, B, [a] => mE x B a && tOk x a
  | _, _, _ => false
def mIt : It → BC → Expr → Expr → Bool
  | .seq x, B, _, a => !setE? a && mE x B a
  | .rng1 x, B, _, .Call (.Name f _) [a] [] _ => decide (f = ("range" : Str)) && glB B f && !star? a && mE x B a
  | .rng3 x y z, B, _, .Call (.Name f _) [a, b, c] [] _ => decide (f = ("range" : Str)) && glB B f && !star? a && !star? b && !star? c && mE x B a && mE y B b && mE z B c
  | .rng2 x y, B, _, .Call (.Name f _) [a, b] [] _ => decide (f = ("range" : Str)) && glB B f && !star? a && !star? b && mE x B a && mE y B b
  | .zip x y, B, .Tuple _ _ _, .Call (.Name f _) [a, b] [] _ => decide (f = ("zip" : Str)) && glB B f && !star? a && !star? b && mE x B a && mE y B b
  | .enum x, B, .Tuple _ _ _, .Call (.Name f _) [a] [] _ => decide (f = ("enumerate" : Str)) && glB B f && !star? a && mE x B a
  | _, _, _, _ => false
end
end
/-- the built-in names that the rules speak of -/
def bltNames : List Str := ["len", "int", "max", "min", "sum", "repr", "all", "any", "list", "tuple", "abs", "isinstance", "bool", "str", "dict", "range", "zip", "enumerate", "sorted", "set", "ValueError"]
/-- a context in which the language's expressions are read -/
structure XOk (T : Th) (G : List Fn) (C : Calls) (k : Nat) (B : BC) (X : Cx) : Prop where
  names : X.env.scope.names = B.names
  kind : X.env.scope.kind = .function
  N : X.N = B.N
  own : ∀ x ∈ B.own, X.fn x = true
  nd : X.N.Nodup
  calm : X.calm = true
  gd : X.A.guards = some []
  room : Room (k + 2) X.A
  sysm : ∃ o, X.K.lookup sysModules = some o
  takes : Takes X T.wx
  cons : ∀ (i : Nat) (F : Fn) (d : D), G[i]? = some F → F.kc = some d → ∃ u v, X.mg F.name = some u ∧ RelV v u ∧ ∀ W H, Rp W H v d
  fns : ∀ (i : Nat) (F : Fn), G[i]? = some F → F.kc = none → ∃ f fd, X.mg F.name = some (.ref f) ∧ PySem.W.keepIn X.K (.ref f) = true ∧ Binds X.K fd (F.N.take F.np) [] ∧ FnG X.prog X.w X.K X.mg X.base (k + 2) f fd (F.N.take F.np) (spF T.xr C i) ∧
    (∀ m ∈ F.kw, ∀ (s : Shared) (us ws : List Value), us.length = m → (us ++ ws).length = (F.N.take F.np).length → BindsTo s fd ⟨us, ((F.N.take F.np).drop m).zip ws⟩ ((F.N.take F.np).zip (us ++ ws))) ∧
    ∀ q ∈ F.kp, ∀ (s : Shared) (us ws xs : List Value), us.length = q.1 → ws.length = q.2.1.length → permO q.2.2 (us ++ ws) = some xs → BindsTo s fd ⟨us, q.2.1.zip ws⟩ ((F.N.take F.np).zip xs)
  marks : ∀ (i : Nat) (F : Fn), G[i]? = some F → F.mark = true → ∃ f fd, X.mg F.name = some (.ref f) ∧ PySem.W.keepIn X.K (.ref f) = true ∧ Binds X.K fd (F.N.take F.np) [] ∧ FnG X.prog X.w X.K X.mg X.base (k + 2) f fd (F.N.take F.np) (spM k)
  mlev : ∀ (i : Nat) (F : Fn), G[i]? = some F → F.mark = true → C i [.sh nest3] ≠ .bad → 3 < k
  blt : ∀ x ∈ bltNames, X.mg x = none
  dig : PySem.W.nsIn X.K cStatics digK = some none ∧ PySem.W.nsOkIn X.K cStatics = true
  xrq : T.xr = xrP
  fav : ∀ (i : Nat) (a : Addr), Plc.fa i a → ∃ F, G[i]? = some F ∧ F.kc = none ∧ X.mg F.name = some (.ref a)
  fad : ∀ (i : Nat) (F : Fn) (a : Addr), G[i]? = some F → F.kc = none → X.mg F.name = some (.ref a) → Plc.fa i a
  cav : ∀ (i : Nat) (C : Addr), Plc.ca i C → ExK X.K C
  cls : ∀ (i : Nat) (F : Fn) (cs : List Nat), G[i]? = some F → F.cl = some cs → ∃ C, X.mg F.name = some (.ref C) ∧ Plc.ca i C ∧ ClsK X.K C cs ∧ RseK X.prog X.w X.K X.mg X.base C
end TL
namespace TL
open PySem PySem.Spec PyProof.Rows L2
variable [Plc]
abbrev eSet (w : World) : Obj := { cls := .type "set", dict := none, data := .set #[] 0 (.fresh 0 0 (!w.params.followText "set-order")) }
section
variable {P : Program} {w : World} {A : Around} {E : Value → Shared → Prop} {s : Shared}
/-- set(l) of a list of ints; what it comes to can be sorted -/
theorem set_of_list {l : Addr} {vs : Array Value} (ns : List Int) {Q : Value → Shared → Prop} (hh : A.handled = none) (hl : s.heap.IsList l vs) (hi : IntsAre vs.toList ns) (hb : ns.length + 1 < scanBound)
    (fin : ∀ (hp : Heap) (tk c : Nat), SetR w hp s.heap.objs.size (fun j => decide (j ∈ ns)) c → c ≤ ns.length → (∀ b o, s.heap.get? b = some o → hp.get? b = some o) → Q (.ref s.heap.objs.size) { s with heap := hp, toks := tk }) :
    wpAny (model P w) A (call (.type "set") [.ref l]) Q E s := by
  have size : vs.size = ns.length := by rw [← IntsAre.length hi, Array.length_toList]
  obtain ⟨cc, tl, mro⟩ := F.called_set.mro
  have made := F.called_set.made; have sub := F.called_set.sub
  refine wpAny_call (codeAny_of_tree ?_)
  show wpAny _ _ (callAny (.type "set") _) _ _ _
  refine wpAny_pure ⟨Code.quiet_builtin _ (by decide +kernel), codeAny_builtin F.entry_type_call ?_⟩
  rw [Around.under_plain (weight_type_call_type "set" [.ref l] []) rfl]
  have q1 := F.called_set.notType; have q2 := F.called_set.canCreate; have q3 := F.typeCall_set_1 (.ref l)
  repeat (any_goals (first | assumption | wp_step))
  have lS : l < s.heap.objs.size := let ⟨_, e, _⟩ := hl; Heap.lt_size e
  refine codeAny_mono (L2.code_set_led1 (.ref l) (E := E) (Q₁ := fun z t => z = .ref s.heap.objs.size ∧ t = { s with heap := s.heap.push (eSet w) }) ⟨rfl, rfl⟩) fun r t hr => ?_
  cases r with
  | error e => exact hr
  | ok fl =>
    cases fl <;> first | (exact hr.elim) | skip
    obtain ⟨rfl, rfl⟩ := hr
    have at0 : (s.heap.push (eSet w)).get? s.heap.objs.size = some (eSet w) := Heap.get?_push_size _ rfl
    have ty0 : Shared.TypeIs { s with heap := s.heap.push (eSet w) } (.ref s.heap.objs.size) "set" := ⟨_, at0, rfl⟩
    have q4 := F.called_set.init.lookup; have q5 := F.called_set.init.bind (.ref s.heap.objs.size)
    repeat (any_goals (first | assumption | wp_step))
    let Rz : Value → Shared → Prop := fun r t => r = .none ∧ ∃ hp tk c, t = { s with heap := hp, toks := tk } ∧ SetR w hp s.heap.objs.size (fun j => decide (j ∈ ns)) c ∧ c ≤ ns.length ∧ (∀ b o, s.heap.get? b = some o → hp.get? b = some o)
    refine codeAny_mono (codeAny_call_builtin (R := wants Rz E) F.called_set.init.plain F.entry_set_init (check_set_init_1 ty0 ?_)) fun r2 t2 hr2 => ?_
    · obtain ⟨⟨c0, d0, x0, y0⟩, e0, ec, nl, ed⟩ := hl
      simp only at ec ed
      subst ec ed
      have e1 : (s.heap.push (eSet w)).get? l = some { cls := .type "list", dict := d0, data := .seq vs nl, slots := y0 } := Heap.get?_push_of_some _ e0
      have q6 := F.sub_list_set; have q7 := F.sub_list_frozenset
      have q8 : (Value.type "list" == Value.type "dict") = false := by decide
      have l1 : (s.heap.push (eSet w)).IsList l vs := ⟨_, e1, rfl, nl, rfl⟩
      unfold Builtin.«set.__init__» noKeywords Builtin.Frozenset.updateFrom
      generalize hPI : pyIter = PI
      wp_walk
      subst hPI
      refine wpAny_pyIter_list l1 (wpAny_bind (wpAny_runValue ?_))
      have sz : (s.heap.push (eSet w)).objs.size = s.heap.objs.size + 1 := Heap.size_push ..
      have n1 : l ≠ (s.heap.push (eSet w)).objs.size := by rw [sz]; exact Nat.ne_of_lt (Nat.lt_succ_of_lt lS)
      have n2 : s.heap.objs.size ∉ [(s.heap.push (eSet w)).objs.size, l] := by
        rw [sz]; simp only [List.mem_cons, List.not_mem_nil, or_false, not_or]; exact ⟨Nat.ne_of_lt (Nat.lt_succ_self _), Nat.ne_of_gt lS⟩
      have val : ∀ (i : Nat) (v : Value), vs[i]? = some v → ∃ k t, ns[i]? = some k ∧ v = .int k t := fun i v hv => by
        have hl : i < ns.length := by rw [← size]; exact (Array.getElem?_eq_some_iff.mp hv).1
        obtain ⟨t, e⟩ := IntsAre.int_at hi i v (by rw [Array.getElem?_toList]; exact hv)
        exact ⟨ns[i], t, List.getElem?_eq_getElem hl, by rw [e, List.getD_eq_getElem?_getD, List.getElem?_eq_getElem hl] <;> rfl⟩
      refine L2.set_update_ints ((Walks.list (by simp [hh]) _ l n1 vs).toS) s.heap.objs.size n2 ns size hb val (vs.size - 0) 0 _ (by omega) (Nat.zero_le _) ⟨⟨_, Heap.get?_push_size _ rfl, rfl, rfl⟩, l1.push _⟩
        ⟨0, Nat.le_refl 0, L2.setR_new_at (Heap.get?_push_of_some _ at0)⟩ fun t2 c hm hc hS => ?_
      obtain ⟨hp, g2, dr, tk, os⟩ := t2
      have e2 : g2 = s.gens := hm.gens
      have e3 : dr = s.drawn := hm.drawn
      have e4 : os = s.os := hm.os
      subst e2 e3 e4
      refine wpAny_pure ?_
      show wpAny _ _ (ret Value.none) _ _ _
      refine wpAny_pure ⟨rfl, hp, tk, c, rfl, hS, by rw [← size]; exact hc, fun b o e => ?_⟩
      have hb0 := Heap.lt_size e
      exact hm.heap b o (by rw [sz]; simp only [List.mem_cons, List.not_mem_nil, or_false, not_or]; exact ⟨Nat.ne_of_lt hb0, Nat.ne_of_lt (Nat.lt_succ_of_lt hb0)⟩) (Heap.get?_push_of_some _ (Heap.get?_push_of_some _ e))
    · cases r2 with
      | error e => exact hr2
      | ok fl2 =>
        cases fl2 <;> first | (exact hr2.elim) | skip
        obtain ⟨rfl, hp, tk, c, rfl, hS, hc, hk⟩ := hr2
        repeat (any_goals (first | assumption | wp_step))
        exact fin _ _ _ hS hc hk
end
end TL
/-! TL17: pieces for the reading of expressions. -/
namespace TL
open PySem PySem.Spec PyProof.Rows L2
variable [Plc]

section
variable {T : Th} {G : List Fn} {C : Calls} {k : Nat} {B : BC} {X : Cx}
theorem XOk.vis (O : XOk T G C k B X) {x : Str} (h : visB B x = true) : Vis X.env.scope x := by
  unfold visB at h
  unfold Vis
  rw [O.names]
  split at h
  · rename_i e; exact .inl e
  · rename_i e; exact .inr (.inl e)
  · rename_i e; exact .inr (.inr e)
  · cases h
theorem dun {x : Str} (h : (!dunder x) = true) : (x == ("__debug__" : Str)) = false ∧ (x == ("__classdict__" : Str)) = false ∧ x ≠ ("__name__" : Str) := by
  unfold dunder at h
  simp only [Bool.not_eq_true', Bool.or_eq_false_iff] at h
  exact ⟨h.1.1, h.1.2, fun z => by rw [z] at h; simp at h⟩
theorem XOk.var (O : XOk T G C k B X) {i : Nat} {x : Str} {pos : Pos} (h : rdB? B i x = true) : PE X (.Name x pos) (tVar i) := by
  unfold rdB? at h
  simp only [Bool.and_eq_true, decide_eq_true_eq] at h
  obtain ⟨⟨h1, h2⟩, h3⟩ := h
  obtain ⟨d1, d2, _⟩ := dun h3
  exact pe_var (by rw [O.N]; exact h1) (O.vis h2) d1 d2
theorem XOk.gl (O : XOk T G C k B X) {x : Str} (h : glB B x = true) : Gl X x ∧ (x == ("__debug__" : Str)) = false ∧ x ≠ ("__name__" : Str) := by
  unfold glB at h
  simp only [Bool.and_eq_true, decide_eq_true_eq] at h
  obtain ⟨d1, _, d3⟩ := dun h.2
  refine ⟨?_, d1, d3⟩
  unfold Gl Env.kindOf
  rw [O.names]
  exact h.1
theorem star_cons {e : Expr} (h : star? e = false) (es : List Expr) (env : Env) : starEach (e :: es) env = (false, eval e env) :: starEach es env := by
  cases e <;> first | rfl | cases h
theorem star_plain : ∀ {es : List Expr} (h : noStars es = true) (pos : Pos) (env : Env), (backTo pos (starEach es env)).any (·.1) = false
  | [], _, _, _ => rfl
  | e :: es, h, pos, env => by
    unfold noStars at h
    simp only [List.all_cons, Bool.and_eq_true, Bool.not_eq_true'] at h
    rw [star_cons h.1]
    show (false || (backTo pos (starEach es env)).any (·.1)) = false
    rw [Bool.false_or]
    exact star_plain (by unfold noStars; exact h.2) pos env
theorem noSt {e : Expr} {es : List Expr} (h : noStars (e :: es) = true) : star? e = false ∧ noStars es = true := by
  unfold noStars at h ⊢
  simpa only [List.all_cons, Bool.and_eq_true, Bool.not_eq_true'] using h
theorem pa_cons' {e : Expr} {es : List Expr} {te : TE} {t : TA} (he : PE X e te) (h : star? e = false) (hr : PA X es t) : PA X (e :: es) (tCons te t) := pa_cons he hr (star_cons h es X.env)
theorem behind_no {op : CmpOp} {e : Expr} (h : setE? e = false) : behindInMarks op e = false := by
  cases e <;> first | rfl | cases h
theorem plainIx {b : Expr} (h : slice? b = false) : PlainIx b := fun o i => by
  cases b <;> first | rfl | cases h
theorem base_no {o : Expr} {m : Str} {env : Env} (h : baseOk o = true) : attributeBase o m env (eval o env) = eval o env := by
  cases o <;> first | rfl | cases h
theorem fold_no {e : Expr} {env : Env} (h : setE? e = false) (x : Value) : foldedSetIterable e env x = pure x := by
  cases e <;> first | rfl | cases h
theorem truth_plain {e : Expr} {env : Env} (h : plainT e = true) (whole : Sem Value) : isTrue e env whole = (do let v ← whole; standAt e.pos; holding [v] (truthy v)) := by
  cases e <;> first | rfl | (cases h; done) | skip
  rename_i op x p
  cases op <;> first | rfl | cases h
/-- the test of an expression, by its value -/
theorem pt_of {ast : Expr} {f : Gv → Rs Op} (h : PE X ast (tI T f)) (hp : plainT ast = true) : PT X ast (tT T f) := PT.imp (pt_truth h (truth_plain hp)) fun _ _ _ q => test_imp q
/-- the test of an expression whose value is a bool -/
theorem bl_imp {f : Gv → Rs Op} (hb : ∀ g o g', f g = .ok o g' → ∃ b, o = .val (.bool b) false) {σ : L2.St} {H : Hp} {Q : Bool → Hp → Prop} (h : tT T f σ H Q) : tI T f σ H fun x H1 => ∃ k, x = .bl k ∧ Q k H1 := by
  obtain ⟨W, g, G, h⟩ := h
  refine ⟨W, g, G, h.mono fun a g1 W1 H1 e s1 G1 h1 v r => ?_⟩
  obtain ⟨b, rfl⟩ := hb g a g1 e
  obtain ⟨k, e2, q⟩ := h1
  have e3 : some b = some k := e2
  cases e3
  cases r
  exact ⟨b, rfl, q⟩
theorem finBin_bl {o : CmpOp} {a b o' : Op} {g g' : Gv} (h : finBin (cmpO o) a b g = .ok o' g') : ∃ b, o' = .val (.bool b) false := by
  obtain ⟨d, e, r, h1, h2, h3, h4⟩ := finBin_ok (op := cmpO o) (a := a) (b := b) (g := g) (fun z => by rw [h] at z; cases z)
  rw [h] at h4
  cases h4
  unfold cmpO at h3
  cases q : cmpD o d e with
  | none => rw [q] at h3; cases h3
  | some b =>
    rw [q] at h3
    have h5 : some (PyData.bool b, false) = some r := h3
    cases h5
    exact ⟨b, rfl⟩
theorem bind_ok {α β : Type} {r : Rs α} {f : α → Gv → Rs β} {b : β} {g' : Gv} (h : r.bind f = .ok b g') : ∃ a g, r = .ok a g ∧ f a g = .ok b g' := by
  cases r with
  | bad => cases h
  | ex c fs g => cases h
  | ok a g => exact ⟨a, g, rfl, h⟩
theorem br_ok {α : Type} {o : Option Bool} {p q : Rs α} {a : α} {g : Gv} (h : br o p q = .ok a g) : (o = some true ∧ p = .ok a g) ∨ (o = some false ∧ q = .ok a g) := by
  unfold br at h
  cases o with
  | none => cases h
  | some b =>
    cases b with
    | true => exact .inl ⟨rfl, h⟩
    | false => exact .inr ⟨rfl, h⟩
theorem rC_eq (o : CmpOp) : rC o = r2 (cmpO o) := rfl
theorem rIdx_eq : rIdx = r2 idxO := rfl

/-! ### chains -/
theorem cmpB_some {o : CmpOp} {a b : Op} {g : Gv} {c : Bool} (h : cmpB o a b g = some c) : ∃ d e, a.res g = some d ∧ b.res g = some e ∧ cmpD o d e = some c := by
  unfold cmpB at h
  cases h1 : a.res g with
  | none => rw [h1] at h; cases h
  | some d =>
    rw [h1] at h
    cases h2 : b.res g with
    | none => rw [h2] at h; cases h
    | some e =>
      rw [h2] at h
      exact ⟨d, e, rfl, rfl, h⟩
theorem Opd.fwd {W1 W2 : Addr → Prop} {σ : L2.St} {g g1 g2 : Gv} {H H1 H2 : Hp} {v : V} {o : Op} (r : ORp σ g H W1 g1 H1 v o) (G1 : EOk W1 H1 σ g1) (s : Stp W1 σ g1 H1 W2 σ g2 H2) : Opd W2 H2 σ v o := r.later G1 s
theorem br_pst {α : Type} {W : Addr → Prop} {σ : L2.St} {g : Gv} {H : Hp} {R : α → Gv → (Addr → Prop) → Hp → Prop} {o : Option Bool} {p q : Rs α} (h : Pst T W σ g H R (br o p q)) : ∃ b, o = some b ∧ (b = true → Pst T W σ g H R p) ∧ (b = false → Pst T W σ g H R q) := by
  unfold br at h
  cases o with
  | none => exact h.elim
  | some b =>
    cases b with
    | true => exact ⟨true, rfl, fun _ => h, (fun z => nomatch z)⟩
    | false => exact ⟨false, rfl, (fun z => nomatch z), fun _ => h⟩
theorem chain_imp {fa fb fc : Gv → Rs Op} {o p : CmpOp} {σ : L2.St} {H : Hp} {Q : VK}
    (h : tI T (fun g => (fa g).bind fun a g => (fb g).bind fun b g => br (cmpB o a b g) ((fc g).bind fun c g => finBin (cmpO p) b c g) (.ok (.val (.bool false) false) g)) σ H Q) :
    tChain (rC o) (rC p) (tI T fa) (tI T fb) (tI T fc) σ H Q := by
  obtain ⟨W, g, G, h⟩ := h
  refine ⟨W, g, G, (Pst.bind G.wok h).mono fun a g1 W1 H1 _ s1 G1 h1 v r1 => ⟨W1, g1, G1, (Pst.bind G1.wok h1).mono fun b g2 W2 H2 _ s2 G2 h2 u r2' => ?_⟩⟩
  obtain ⟨c, hc, ht, hf⟩ := br_pst h2
  obtain ⟨d, e, e1, e2, e3⟩ := cmpB_some hc
  refine ⟨W2, d, e, .bool c, false, G2.wok, (r1.later G1 s2).rb G2 e1, (r2'.opd).rb G2 e2, by show (cmpD o d e).map _ = _; rw [e3]; rfl, fun w H3 sm rw' => ?_⟩
  cases rw'
  refine ⟨c, rfl, ?_⟩
  cases c with
  | false =>
    rw [if_neg (by decide)]
    exact hf rfl H3 W2 (stp_new sm) (eok_new G2 sm) _ (.bl false)
  | true =>
    rw [if_pos rfl]
    have G3 := eok_new G2 sm
    have s3 : Stp W2 σ g2 H2 W2 σ g2 H3 := stp_new sm
    have h3 : Pst T W2 σ g2 H3 (fun o g' W' H' => ∀ v, ORp σ g H W' g' H' v o → Q v H') ((fc g2).bind fun c g => finBin (cmpO p) b c g) := by
      have := ht rfl
      cases hq : (fc g2).bind fun c g => finBin (cmpO p) b c g with
      | bad => rw [hq] at this; exact this
      | ex c fs g' => rw [hq] at this; exact fun cls d H' W' s4 G4 x => this cls d H' W' (s3.trans G2.wok s4) G4 x
      | ok a g' => rw [hq] at this; exact fun H' W' s4 G4 => this H' W' (s3.trans G2.wok s4) G4
    refine ⟨W2, g2, G3, (Pst.bind G3.wok h3).mono fun c g4 W4 H4 _ s4 G4 h4 z r4 => ?_⟩
    obtain ⟨d', f, r, f1, f2, f3, f4⟩ := finBin_ok h4.nb
    rw [f4] at h4
    exact ⟨W4, d', f, r.1, r.2, G4.wok, ((r2'.fwd G2 s3).later G3 s4).rb G4 f1, r4.opd.rb G4 f2, f3, fin_new G4 (fun b z => s1.there b (s2.there b (s3.there b (s4.there b z)))) h4⟩

/-! ### and, or, if -/
theorem ife_imp {K : PySem.W.Frag} {fc fa fb : Gv → Rs Op} {σ : L2.St} {H : Hp} {Q : VK} (h : tI T (fun g => (fc g).bind fun a g => br (tst a g) (fa g) (fb g)) σ H Q) : tIf (tT T fc) (tI T fa) (tI T fb) σ H Q := by
  obtain ⟨W, g, G, h⟩ := h
  refine ⟨W, g, G, (Pst.bind G.wok h).mono fun a g1 W1 H1 _ s1 G1 h1 => ?_⟩
  obtain ⟨b, hb, ht, hf⟩ := br_pst h1
  refine ⟨b, hb, ?_⟩
  have mk : ∀ {f : Gv → Rs Op}, Pst T W1 σ g1 H1 (fun o g' W' H' => ∀ v, ORp σ g H W' g' H' v o → Q v H') (f g1) → tI T f σ H1 Q := fun {f} q => ⟨W1, g1, G1, q.mono fun o g' W' H' _ s' G' q v r => q v (r.back s1)⟩
  cases b with
  | true => refine iteT ?_; exact mk (ht rfl)
  | false => refine iteF ?_; exact mk (hf rfl)
theorem ifeT_imp {fc fa fb : Gv → Rs Op} {σ : L2.St} {H : Hp} {Q : Bool → Hp → Prop} (h : tT T (fun g => (fc g).bind fun a g => br (tst a g) (fa g) (fb g)) σ H Q) : tT T fc σ H fun c H1 => if c = true then tT T fa σ H1 Q else tT T fb σ H1 Q := by
  obtain ⟨W, g, G, h⟩ := h
  refine ⟨W, g, G, (Pst.bind G.wok h).mono fun a g1 W1 H1 _ s1 G1 h1 => ?_⟩
  obtain ⟨b, hb, ht, hf⟩ := br_pst h1
  refine ⟨b, hb, ?_⟩
  cases b with
  | true => refine iteT ?_; exact ⟨W1, g1, G1, ht rfl⟩
  | false => refine iteF ?_; exact ⟨W1, g1, G1, hf rfl⟩
theorem pt_ife {c a b : Expr} {pos : Pos} {tc ta tb : TT} (hc : PT X c tc) (ha : PT X a ta) (hb : PT X b tb) : PT X (.IfExp c a b pos) (fun σ H Q => tc σ H fun d H1 => if d = true then ta σ H1 Q else tb σ H1 Q) := by
  constructor
  intro pins s σ H Q I h
  refine isTrue_IfExp (thn (hc.run pins s σ H _ I h) fun d s1 ⟨H1, I1, q⟩ => ?_)
  cases d with
  | true => exact ha.run pins s1 σ H1 Q I1 (by rw [if_pos rfl] at q; exact q)
  | false => exact hb.run pins s1 σ H1 Q I1 (by rw [if_neg (by decide)] at q; exact q)
theorem and_imp {K : PySem.W.Frag} {fa fr : Gv → Rs Op} {σ : L2.St} {H : Hp} {Q : VK} (h : tI T (fun g => (fa g).bind fun a g => br (tst a g) (fr g) (.ok a g)) σ H Q) : tAndT K (tI T fa) (tI T fr) σ H Q := by
  obtain ⟨W, g, G, h⟩ := h
  refine ⟨W, g, G, (Pst.bind G.wok h).mono fun a g1 W1 H1 _ s1 G1 h1 v r => ?_⟩
  obtain ⟨b, hb, ht, hf⟩ := br_pst h1
  refine ⟨b, tst_rb r.opd G1 hb, ?_⟩
  cases b with
  | true => refine iteT ?_; exact ⟨W1, g1, G1, (ht rfl).mono fun o g' W' H' _ s' G' q v r => q v (r.back s1)⟩
  | false => refine iteF ?_; exact hf rfl H1 W1 Stp.refl G1 v r
theorem or_imp {K : PySem.W.Frag} {fa fr : Gv → Rs Op} {σ : L2.St} {H : Hp} {Q : VK} (h : tI T (fun g => (fa g).bind fun a g => br (tst a g) (.ok a g) (fr g)) σ H Q) : tOrT K (tI T fa) (tI T fr) σ H Q := by
  obtain ⟨W, g, G, h⟩ := h
  refine ⟨W, g, G, (Pst.bind G.wok h).mono fun a g1 W1 H1 _ s1 G1 h1 v r => ?_⟩
  obtain ⟨b, hb, ht, hf⟩ := br_pst h1
  refine ⟨b, tst_rb r.opd G1 hb, ?_⟩
  cases b with
  | true => refine iteT ?_; exact ht rfl H1 W1 Stp.refl G1 v r
  | false => refine iteF ?_; exact ⟨W1, g1, G1, (hf rfl).mono fun o g' W' H' _ s' G' q v r => q v (r.back s1)⟩
theorem andT_imp {fa fr : Gv → Rs Op} {σ : L2.St} {H : Hp} {Q : Bool → Hp → Prop} (h : tT T (fun g => (fa g).bind fun a g => br (tst a g) (fr g) (.ok a g)) σ H Q) : tAnd (tT T fa) (tT T fr) σ H Q := by
  obtain ⟨W, g, G, h⟩ := h
  refine ⟨W, g, G, (Pst.bind G.wok h).mono fun a g1 W1 H1 _ s1 G1 h1 => ?_⟩
  obtain ⟨b, hb, ht, hf⟩ := br_pst h1
  refine ⟨b, hb, ?_⟩
  cases b with
  | true => refine iteT ?_; exact ⟨W1, g1, G1, ht rfl⟩
  | false =>
    refine iteF ?_
    obtain ⟨c, hc, q⟩ := hf rfl H1 W1 Stp.refl G1
    rw [hb] at hc
    cases hc
    exact q
theorem orT_imp {fa fr : Gv → Rs Op} {σ : L2.St} {H : Hp} {Q : Bool → Hp → Prop} (h : tT T (fun g => (fa g).bind fun a g => br (tst a g) (.ok a g) (fr g)) σ H Q) : tOr (tT T fa) (tT T fr) σ H Q := by
  obtain ⟨W, g, G, h⟩ := h
  refine ⟨W, g, G, (Pst.bind G.wok h).mono fun a g1 W1 H1 _ s1 G1 h1 => ?_⟩
  obtain ⟨b, hb, ht, hf⟩ := br_pst h1
  refine ⟨b, hb, ?_⟩
  cases b with
  | true =>
    refine iteT ?_
    obtain ⟨c, hc, q⟩ := ht rfl H1 W1 Stp.refl G1
    rw [hb] at hc
    cases hc
    exact q
  | false => refine iteF ?_; exact ⟨W1, g1, G1, hf rfl⟩
/-- not x -/
theorem notT_imp {fa : Gv → Rs Op} {σ : L2.St} {H : Hp} {Q : Bool → Hp → Prop} (h : tT T (fun g => (fa g).bind fun a g => finUn notO a g) σ H Q) : tNot (tT T fa) σ H Q := by
  obtain ⟨W, g, G, h⟩ := h
  refine ⟨W, g, G, (Pst.bind G.wok h).mono fun a g1 W1 H1 _ s1 G1 h1 => ?_⟩
  obtain ⟨d, r, e1, e2, e3⟩ := finUn_ok h1.nb
  rw [e3] at h1
  unfold notO at e2
  cases q : truth d with
  | none => rw [q] at e2; cases e2
  | some b =>
    rw [q] at e2
    have e4 : some (PyData.bool (!b), false) = some r := e2
    cases e4
    obtain ⟨c, hc, q'⟩ := h1 H1 W1 Stp.refl G1
    have hc' : some (!b) = some c := hc
    cases hc'
    exact ⟨b, by unfold tst; rw [e1]; exact q, q'⟩
theorem not_imp {K : PySem.W.Frag} {fa : Gv → Rs Op} {σ : L2.St} {H : Hp} {Q : VK} (h : tI T (fun g => (fa g).bind fun a g => finUn notO a g) σ H Q) : tNotT K (tI T fa) σ H Q := by
  obtain ⟨W, g, G, h⟩ := h
  refine ⟨W, g, G, (Pst.bind G.wok h).mono fun a g1 W1 H1 _ s1 G1 h1 v r1 => ?_⟩
  obtain ⟨d, r, e1, e2, e3⟩ := finUn_ok h1.nb
  rw [e3] at h1
  unfold notO at e2
  cases q : truth d with
  | none => rw [q] at e2; cases e2
  | some b =>
    rw [q] at e2
    have e4 : some (PyData.bool (!b), false) = some r := e2
    cases e4
    exact ⟨b, tru_rb (r1.opd.rb G1 e1) q, h1 H1 W1 Stp.refl G1 _ (.bl _)⟩
/-- a slice -/
def tPartI (T : Th) (f : Gv → Rs (Option Int)) : TO := fun σ H Q => ∃ W g, EOk W H σ g ∧ Pst T W σ g H (fun o g' W' H' => Q o H') (f g)
theorem part_no {σ : L2.St} {H : Hp} {Q : Option Int → Hp → Prop} (h : tPartI T (fun g => .ok none g) σ H Q) : tNoPart σ H Q := by
  obtain ⟨W, g, G, h⟩ := h
  exact h H W Stp.refl G
theorem part_so {f : Gv → Rs Op} {σ : L2.St} {H : Hp} {Q : Option Int → Hp → Prop} (h : tPartI T (fun g => (f g).bind fun a g => finPart a g) σ H Q) : tPart (tI T f) σ H Q := by
  obtain ⟨W, g, G, h⟩ := h
  refine ⟨W, g, G, (Pst.bind G.wok h).mono fun a g1 W1 H1 _ s1 G1 h1 v r => ?_⟩
  unfold finPart at h1
  cases e : a.res g1 with
  | none => simp only [e] at h1; exact h1.elim
  | some d =>
    simp only [e] at h1
    cases d with
    | int i => exact ⟨i, (r.opd.rb G1 e).int, h1 H1 W1 Stp.refl G1⟩
    | _ => exact h1.elim
omit [Plc] in
theorem PO.imp {e : Option Expr} {t t' : TO} (h : PO X e t) (m : ∀ σ H Q, t' σ H Q → t σ H Q) : PO X e t' := ⟨fun pins s σ H Q I q => h.run pins s σ H Q I (m σ H Q q)⟩
theorem sl_imp {fa : Gv → Rs Op} {fl fh : Gv → Rs (Option Int)} {σ : L2.St} {H : Hp} {Q : VK} (h : tI T (fun g => (fa g).bind fun a g => (fl g).bind fun l g => (fh g).bind fun h g => finSl l h a g) σ H Q) :
    tSl rSl (tI T fa) (tPartI T fl) (tPartI T fh) σ H Q := by
  obtain ⟨W, g, G, h⟩ := h
  refine ⟨W, g, G, (Pst.bind G.wok h).mono fun a g1 W1 H1 _ s1 G1 h1 v r => ⟨W1, g1, G1, (Pst.bind G1.wok h1).mono fun l g2 W2 H2 _ s2 G2 h2 => ⟨W2, g2, G2, (Pst.bind G2.wok h2).mono fun hh g3 W3 H3 _ s3 G3 h3 => ?_⟩⟩⟩
  obtain ⟨d, r', e1, e2, e3⟩ := finUn_ok (h3.nb)
  have h3' : Pst T W3 σ g3 H3 _ (finUn (fun d => slD d l hh) a g3) := h3
  rw [e3] at h3'
  exact ⟨W3, d, r'.1, r'.2, G3.wok, ((r.fwd G1 s2).later G2 s3).rb G3 e1, e2, fin_new G3 (fun b z => s1.there b (s2.there b (s3.there b z))) h3'⟩
/-- isinstance -/
theorem tyO_ok {t : Ty} {d : D} {r : D × Bool} (h : tyO t d = some r) : tyd d = true ∧ r = (.bool (isTy t d), false) := by
  unfold tyO at h
  by_cases td : tyd d = true
  · rw [if_pos td] at h; cases h; exact ⟨td, rfl⟩
  · rw [if_neg td] at h; cases h
theorem tysO_ok {ts : List Ty} {d : D} {r : D × Bool} (h : tysO ts d = some r) : tyd d = true ∧ r = (.bool (ts.any fun t => isTy t d), false) := by
  unfold tysO at h
  by_cases td : tyd d = true
  · rw [if_pos td] at h; cases h; exact ⟨td, rfl⟩
  · rw [if_neg td] at h; cases h
theorem isi_imp {f : Gv → Rs Op} {t : Ty} {σ : L2.St} {H : Hp} {Q : VK} (h : tI T (fun g => (f g).bind fun a g => finUn (tyO t) a g) σ H Q) : tCB (rIsD t) (tCons (tI T f) (tCons (tC (.ty t.name)) tNil)) σ H Q := by
  obtain ⟨W, g, G, h⟩ := h
  refine ⟨W, g, G, (Pst.bind G.wok h).mono fun a g1 W1 H1 _ s1 G1 h1 v r => ?_⟩
  obtain ⟨d, r', e1, e2, e3⟩ := finUn_ok h1.nb
  rw [e3] at h1
  obtain ⟨td, rfl⟩ := tyO_ok e2
  exact ⟨W1, d, v, rfl, r.opd.rb G1 e1, td, h1 H1 W1 Stp.refl G1 _ (.bl _)⟩
def rRev : V → Hp → VK → Prop := fun x H Q => ∃ (W : Addr → Prop) (d r : D) (own : Bool), (∀ b, W b → ∃ o, H b = some o) ∧ RB W H x d ∧ revD d = some (r, own) ∧ New W H r own Q
def tRv (te : TE) : TE := fun σ H Q => te σ H fun x H1 => rRev x H1 Q
theorem rev_imp {f : Gv → Rs Op} {σ : L2.St} {H : Hp} {Q : VK} (h : tI T (fun g => (f g).bind fun a g => finUn revD a g) σ H Q) : tRv (tI T f) σ H Q := by
  obtain ⟨W, g, G, h⟩ := h
  refine ⟨W, g, G, (Pst.bind0 h).mono fun a g1 W1 H1 _ s1 G1 h1 v r => ?_⟩
  obtain ⟨d, r', e1, e2, e3⟩ := finUn_ok h1.nb
  rw [e3] at h1
  exact ⟨W1, d, r'.1, r'.2, G1.wok, r.opd.rb G1 e1, e2, fin_new2 G G1 s1 h1⟩
theorem asStrs_map {W : Addr → Prop} {H : Hp} : ∀ {xs : List D} {ys : List Str} {vs : List V}, asStrs xs = some ys → RpA W H vs xs → vs = ys.map V.str
  | [], ys, vs, h, r => by
    have h' : some [] = some ys := h
    cases h'
    cases r; rfl
  | d :: xs, ys, vs, h, r => by
    cases d <;> first | (cases h; done) | skip
    rename_i z
    have h' : (asStrs xs).map (z :: ·) = some ys := h
    cases e : asStrs xs with
    | none => rw [e] at h'; cases h'
    | some zs =>
      rw [e] at h'
      have h2 : some (z :: zs) = some ys := h'
      cases h2
      cases r with
      | cons r1 r2 =>
        cases r1
        rw [asStrs_map e r2]
        rfl
theorem join_imp {K : PySem.W.Frag} {fo fx : Gv → Rs Op} {σ : L2.St} {H : Hp} {Q : VK} (h : tI T (fun g => (fo g).bind fun a g => match a.res g with | some (.str z) => (fx g).bind fun b g => finUn (joinD (.str z)) b g | _ => .bad) σ H Q) :
    tM1 (fun x xs H Q => ∃ a p, ∃ ys : List Str, x = .str a ∧ xs = [.ref p] ∧ (SqL K H p (ys.map V.str) ∨ SqT K H p (ys.map V.str)) ∧ (ys.map (·.length)).sum + ys.length * a.length ≤ 16777216 ∧ Q (.str (Txt.join a ys)) H) (tI T fo) (tI T fx) σ H Q := by
  obtain ⟨W, g, G, h⟩ := h
  refine ⟨W, g, G, (Pst.bind G.wok h).mono fun a g1 W1 H1 _ s1 G1 h1 v r => ?_⟩
  cases e : a.res g1 with
  | none => simp only [e] at h1; exact h1.elim
  | some d =>
    simp only [e] at h1
    cases d <;> first | (exact h1.elim) | skip
    rename_i z
    have ev := (r.opd.rb G1 e).str
    subst ev
    refine ⟨⟨z, rfl⟩, W1, g1, G1, (Pst.bind G1.wok h1).mono fun b g2 W2 H2 _ s2 G2 h2 u ru => ?_⟩
    obtain ⟨d, r', e1, e2, e3⟩ := finUn_ok h2.nb
    rw [e3] at h2
    have rb := ru.opd.rb G2 e1
    have fin : ∀ {ys : List Str} {p : Addr}, u = .ref p → (SqL K H2 p (ys.map V.str) ∨ SqT K H2 p (ys.map V.str)) → joinS z ys = some r' → ∃ a p, ∃ ys : List Str, V.str z = .str a ∧ [u] = [.ref p] ∧ (SqL K H2 p (ys.map V.str) ∨ SqT K H2 p (ys.map V.str)) ∧ (ys.map (·.length)).sum + ys.length * a.length ≤ 16777216 ∧ Q (.str (Txt.join a ys)) H2 := fun {ys p} eu sq ej => by
      unfold joinS at ej
      by_cases l : (ys.map (·.length)).sum + ys.length * z.length ≤ 16777216
      · rw [if_pos l] at ej
        cases ej
        exact ⟨z, p, ys, rfl, by rw [eu], sq, l, h2 H2 W2 Stp.refl G2 _ (.str _)⟩
      · rw [if_neg l] at ej; cases ej
    cases d <;> first | (exfalso; cases e2; done) | skip
    · rename_i xs
      have e2 : (asStrs xs).bind (joinS z) = some r' := e2
      cases q : asStrs xs with
      | none => rw [q] at e2; cases e2
      | some ys =>
        rw [q] at e2
        obtain ⟨p, vs, eu, rd, l, ra⟩ := rb.lst
        have := asStrs_map q ra
        subst this
        exact fin eu (.inl (.inl rd)) e2
    · rename_i xs
      have e2 : (asStrs xs).bind (joinS z) = some r' := e2
      cases q : asStrs xs with
      | none => rw [q] at e2; cases e2
      | some ys =>
        rw [q] at e2
        obtain ⟨p, vs, eu, rd, l, ra, _⟩ := rb.tup
        have := asStrs_map q ra
        subst this
        exact fin eu (.inr (.inl rd)) e2
theorem find_imp {fo fx : Gv → Rs Op} {σ : L2.St} {H : Hp} {Q : VK} (h : tI T (fun g => (fo g).bind fun a g => match a.res g with | some (.str z) => (fx g).bind fun b g => finUn (findD z) b g | _ => .bad) σ H Q) :
    tM1 (fun x xs H Q => ∃ a b, x = .str a ∧ xs = [.str b] ∧ Q (.int (Txt.find a b)) H) (tI T fo) (tI T fx) σ H Q := by
  obtain ⟨W, g, G, h⟩ := h
  refine ⟨W, g, G, (Pst.bind G.wok h).mono fun a g1 W1 H1 _ s1 G1 h1 v r => ?_⟩
  cases e : a.res g1 with
  | none => simp only [e] at h1; exact h1.elim
  | some d =>
    simp only [e] at h1
    cases d <;> first | (exact h1.elim) | skip
    rename_i z
    have ev := (r.opd.rb G1 e).str
    subst ev
    refine ⟨⟨z, rfl⟩, W1, g1, G1, (Pst.bind G1.wok h1).mono fun b g2 W2 H2 _ s2 G2 h2 u ru => ?_⟩
    obtain ⟨d, r', e1, e2, e3⟩ := finUn_ok h2.nb
    rw [e3] at h2
    have rb := ru.opd.rb G2 e1
    cases d <;> first | (exfalso; cases e2; done) | skip
    rename_i y
    have e2 : some (PyData.int (Txt.find z y), false) = some r' := e2
    cases e2
    exact ⟨z, y, rfl, by rw [rb.str], h2 H2 W2 Stp.refl G2 _ (.int _)⟩
theorem insU_mem (x y : Int) : ∀ l : List Int, y ∈ insU x l ↔ y = x ∨ y ∈ l
  | [] => by simp [insU]
  | z :: r => by
    unfold insU
    by_cases h : x < z
    · rw [if_pos h]; simp
    · rw [if_neg h]
      by_cases q : x = z
      · rw [if_pos q]; simp [q]
      · rw [if_neg q, List.mem_cons, insU_mem x y r, List.mem_cons]
        constructor
        · rintro (h | h | h)
          · exact .inr (.inl h)
          · exact .inl h
          · exact .inr (.inr h)
        · rintro (h | h | h)
          · exact .inr (.inl h)
          · exact .inl h
          · exact .inr (.inr h)
theorem usort_mem (y : Int) : ∀ l : List Int, y ∈ usort l ↔ y ∈ l
  | [] => by simp [usort]
  | x :: r => by
    unfold usort
    rw [insU_mem, usort_mem y r, List.mem_cons]
theorem insU_srt (x : Int) : ∀ l : List Int, l.Pairwise (· < ·) → (insU x l).Pairwise (· < ·)
  | [], _ => by simp [insU]
  | z :: r, h => by
    obtain ⟨h1, h2⟩ := List.pairwise_cons.mp h
    unfold insU
    by_cases q : x < z
    · rw [if_pos q]
      refine List.pairwise_cons.mpr ⟨fun y hy => ?_, h⟩
      rcases List.mem_cons.mp hy with rfl | hy
      · exact q
      · exact Int.lt_trans q (h1 y hy)
    · rw [if_neg q]
      by_cases e : x = z
      · rw [if_pos e]; exact h
      · rw [if_neg e]
        refine List.pairwise_cons.mpr ⟨fun y hy => ?_, insU_srt x r h2⟩
        rcases (insU_mem x y r).mp hy with rfl | hy
        · omega
        · exact h1 y hy
theorem usort_srt : ∀ l : List Int, (usort l).Pairwise (· < ·)
  | [] => .nil
  | x :: r => insU_srt x _ (usort_srt r)
theorem srt_ext : ∀ {a b : List Int}, a.Pairwise (· < ·) → b.Pairwise (· < ·) → (∀ x, x ∈ a ↔ x ∈ b) → a = b
  | [], [], _, _, _ => rfl
  | [], y :: b, _, _, h => absurd ((h y).mpr List.mem_cons_self) (by simp)
  | x :: a, [], _, _, h => absurd ((h x).mp List.mem_cons_self) (by simp)
  | x :: a, y :: b, ha, hb, h => by
    obtain ⟨a1, a2⟩ := List.pairwise_cons.mp ha
    obtain ⟨b1, b2⟩ := List.pairwise_cons.mp hb
    have e : x = y := by
      rcases List.mem_cons.mp ((h x).mp List.mem_cons_self) with e | e
      · exact e
      · rcases List.mem_cons.mp ((h y).mpr List.mem_cons_self) with q | q
        · exact q.symm
        · have := b1 x e
          have := a1 y q
          omega
    subst e
    rw [srt_ext a2 b2 fun z => ?_]
    constructor
    · intro hz
      rcases List.mem_cons.mp ((h z).mp (List.mem_cons_of_mem _ hz)) with e | e
      · have := a1 z hz; omega
      · exact e
    · intro hz
      rcases List.mem_cons.mp ((h z).mpr (List.mem_cons_of_mem _ hz)) with e | e
      · have := b1 z hz; omega
      · exact e
/-- set(l) -/
def rSetIL (K : PySem.W.Frag) (w : World) : List V → Hp → VK → Prop := fun vs H Q => ∃ (a : Addr) (ns : List Int), vs = [.ref a] ∧ SqL K H a (ns.map V.int) ∧ ns.length < 60 ∧ ∀ p c, H p = none → c ≤ ns.length → Q (.ref p) (upd H p (SetO w p (fun j => decide (j ∈ ns)) c))
theorem cr_setL {X : Cx} (hc : X.calm = true) : CallR X (.type "set") (rSetIL X.K X.w) := by
  intro pins s σ H vs us Q I r h
  obtain ⟨a, ns, rfl, hs, l60, q⟩ := h
  obtain ⟨its, rv, hl, _⟩ := I.list hs
  rw [Vals.ref1 r]
  refine set_of_list ns (I.ok.hd hc) hl.isList (by simpa using rv.ints) (by unfold scanBound; omega) fun hp tk c hS hle hk => ?_
  exact ⟨.ref s.heap.objs.size, _, I.laid (a := s.heap.objs.size) (o := SetO X.w s.heap.objs.size (fun j => decide (j ∈ ns)) c) (t' := tk) hk (Nat.le_refl _) (setO_new hS), rfl, q _ c (I.hok.fresh (Nat.le_refl _)) hle⟩
theorem sset_imp {K : PySem.W.Frag} {w : World} {f : Gv → Rs Op} {σ : L2.St} {H : Hp} {Q : VK} (h : tI T (fun g => (f g).bind fun a g => finUn ssetD a g) σ H Q) :
    tCB (rSortedSet w) (tCons (tCB (rSetIL K w) (tCons (tI T f) tNil)) tNil) σ H Q := by
  obtain ⟨W, g, G, h⟩ := h
  refine ⟨W, g, G, (Pst.bind0 h).mono fun a g1 W1 H1 _ s1 G1 h1 v r => ?_⟩
  obtain ⟨d, r', e1, e2, e3⟩ := finUn_ok h1.nb
  rw [e3] at h1
  have rb := r.opd.rb G1 e1
  cases d <;> first | (exfalso; cases e2; done) | skip
  rename_i xs
  have e2 : ((asInts xs).bind fun ns => if ns.length < 60 then some (PyData.list ((usort ns).map .int), true) else none) = some r' := e2
  cases hn : asInts xs with
  | none => rw [hn] at e2; cases e2
  | some ns =>
    rw [hn] at e2
    have e2 : (if ns.length < 60 then some (PyData.list ((usort ns).map .int), true) else none) = some r' := e2
    by_cases l60 : ns.length < 60
    · rw [if_pos l60] at e2
      cases e2
      obtain ⟨p, vs, eu, rd, l, ra⟩ := rb.lst
      have ex := ra.ints hn
      subst ex
      refine ⟨p, ns, by rw [eu], .inl rd, l60, fun q c hq hc => ⟨q, _, c, rfl, upd_same, by omega, fun ms p2 hs hm hl hp2 => ?_⟩⟩
      have em : ms = usort ns := srt_ext hs (usort_srt ns) fun x => by
        rw [hm x, usort_mem]
        exact decide_eq_true_iff
      subst em
      have n2 : p2 ≠ q := fun z => by rw [z, upd_same] at hp2; cases hp2
      rw [upd_ne n2] at hp2
      have nw := fin_new2 G G1 s1 h1
      refine nw _ _ (fun b x eb => ?_) ⟨p2, rfl, hp2, (usort ns).map V.int, upd_same, ?_, rpA_mapI _⟩
      · rw [upd_ne (ne_of_none eb hp2), upd_ne (ne_of_none eb hq)]
        exact eb
      · rw [List.length_map, hl]
        exact Nat.le_trans hc (Nat.le_trans (Nat.le_of_lt l60) (by decide))
    · rw [if_neg l60] at e2; cases e2
theorem m1_imp {K : PySem.W.Frag} {m : M1} {r : V → List V → Hp → VK → Prop} {fo fx : Gv → Rs Op} {σ : L2.St} {H : Hp} {Q : VK}
    (hr : ∀ {W : Addr → Prop} {H : Hp} {Q : VK} {x y : V} {d e p : D} {own : Bool}, RB W H x d → RB W H y e → m1D m d e = some (p, own) → New W H p own Q → r x [y] H Q)
    (h : tI T (fun g => (fo g).bind fun a g => match a.res g with | some (.list _) => (fx g).bind fun b g => finBin (m1D m) a b g | _ => .bad) σ H Q) : tBM K "list" r (tI T fo) (tCons (tI T fx) tNil) σ H Q := by
  obtain ⟨W, g, G, h⟩ := h
  refine ⟨W, g, G, (Pst.bind G.wok h).mono fun a g1 W1 H1 _ s1 G1 h1 v r1 => ?_⟩
  cases e : a.res g1 with
  | none => simp only [e] at h1; exact h1.elim
  | some d =>
    simp only [e] at h1
    cases d <;> first | (exact h1.elim) | skip
    rename_i xs
    obtain ⟨p, vs, ev, rd, l, ra⟩ := (r1.opd.rb G1 e).lst
    subst ev
    refine ⟨.inl ⟨rfl, vs, .inl rd⟩, W1, g1, G1, (Pst.bind G1.wok h1).mono fun b g2 W2 H2 _ s2 G2 h2 u ru => ?_⟩
    obtain ⟨d, e', r', e1, e2, e3, e4⟩ := finBin_ok h2.nb
    rw [e4] at h2
    exact hr ((r1.fwd G1 s2).opd.rb G2 e1) (ru.opd.rb G2 e2) e3 (fin_new G2 (fun b z => s1.there b (s2.there b z)) h2)
theorem frzF_get (is : List Nat) : ∀ (g : Gv) (n i : Nat), (frzF is n g)[i]? = (g[i]?).map (frzS is (n + i))
  | [], n, i => by simp [frzF]
  | s :: r, n, 0 => by simp [frzF]
  | s :: r, n, i + 1 => by
    show (frzF is (n + 1) r)[i]? = (r[i]?).map _
    rw [frzF_get is r (n + 1) i, show n + 1 + i = n + (i + 1) by omega]
theorem frzF_len (is : List Nat) : ∀ (g : Gv) (n : Nat), (frzF is n g).length = g.length
  | [], n => rfl
  | s :: r, n => by
    show (frzF is (n + 1) r).length + 1 = r.length + 1
    rw [frzF_len is r (n + 1)]
theorem frz_get {is : List Nat} {g : Gv} {i : Nat} {s : Slot} (h : (frz is g)[i]? = some s) : ∃ t, g[i]? = some t ∧ s = frzS is i t := by
  unfold frz at h
  rw [frzF_get, Nat.zero_add] at h
  cases e : g[i]? with
  | none => rw [e] at h; cases h
  | some t =>
    rw [e] at h
    exact ⟨t, rfl, (Option.some.inj h).symm⟩
/-- the addresses that are shared for a while -/
def BorP (is : List Nat) (σ : L2.St) (g : Gv) : Addr → Prop := fun a => ∃ i d, is.contains i = true ∧ g[i]? = some (.ow d) ∧ ad σ i a
theorem frz_eok {is : List Nat} {W : Addr → Prop} {σ : L2.St} {g : Gv} {H : Hp} (G : EOk W H σ g) : EOk (less W (BorP is σ g)) H σ (frz is g) where
  len := by unfold frz; rw [frzF_len]; exact G.len
  wok := fun b w => G.wok b w.1
  sh := fun i d e => by
    obtain ⟨t, et, es⟩ := frz_get e
    cases t with
    | un => cases es
    | lk _ => cases es
    | io _ => cases es
    | sh d' =>
      cases es
      obtain ⟨v, ev, r⟩ := G.sh i d et
      exact ⟨v, ev, Rp.mono (fun _ _ e _ => e) sub_less d v r⟩
    | ow d' =>
      have es' : Slot.sh d = if is.contains i = true then .sh d' else .lk d' := es
      by_cases c : is.contains i = true
      · rw [if_pos c] at es'
        cases es'
        obtain ⟨a, ha, wa, o⟩ := G.hd i _ d et rfl
        exact ⟨.ref a, ha, Own.give (fun z => z.2 ⟨i, d, c, et, ha⟩) (Own.mono (fun _ _ e _ => e) sub_less (fun _ e => e) o)⟩
      · rw [if_neg c] at es'; cases es'
  hd := fun i s d e hd => by
    obtain ⟨t, et, es⟩ := frz_get e
    have ht : t.hold = some d ∧ ¬ (is.contains i = true ∧ ∃ d, t = .ow d) := by
      cases t with
      | un => subst es; cases hd
      | sh _ => subst es; cases hd
      | lk d' => subst es; exact ⟨hd, fun z => by obtain ⟨_, _, z⟩ := z; cases z⟩
      | io d' => subst es; exact ⟨hd, fun z => by obtain ⟨_, _, z⟩ := z; cases z⟩
      | ow d' =>
        have es' : s = if is.contains i = true then .sh d' else .lk d' := es
        by_cases c : is.contains i = true
        · rw [if_pos c] at es'; subst es'; cases hd
        · rw [if_neg c] at es'; subst es'; exact ⟨hd, fun z => c z.1⟩
    obtain ⟨a, ha, wa, o⟩ := G.hd i t d et ht.1
    refine ⟨a, ha, ⟨wa, fun z => ?_⟩, Own.mono (fun _ _ e _ => e) sub_less (fun _ e => e) o⟩
    obtain ⟨j, d2, c, ej, hj⟩ := z
    by_cases q : j = i
    · subst q
      rw [et] at ej
      cases ej
      exact ht.2 ⟨c, _, rfl⟩
    · exact G.inj j i _ t a q ej et rfl ⟨d, ht.1⟩ hj ha
  inj := fun i j s t a n e1 e2 m hd h1 h2 => by
    obtain ⟨s', es, e⟩ := frz_get e1
    exfalso
    cases s' with
    | un => subst e; cases m
    | sh _ => subst e; cases m
    | lk _ => subst e; cases m
    | io _ => subst e; cases m
    | ow d' =>
      have e' : s = if is.contains i = true then .sh d' else .lk d' := e
      by_cases c : is.contains i = true
      · rw [if_pos c] at e'; subst e'; cases m
      · rw [if_neg c] at e'; subst e'; cases m
theorem frz_mut {is : List Nat} {σ : L2.St} {g : Gv} {a : Addr} : ¬ MutA σ (frz is g) a := fun z => by
  obtain ⟨i, s, e1, m, h1⟩ := z
  obtain ⟨s', es, e⟩ := frz_get e1
  cases s' with
  | un => subst e; cases m
  | sh _ => subst e; cases m
  | lk _ => subst e; cases m
  | io _ => subst e; cases m
  | ow d' =>
    have e' : s = if is.contains i = true then .sh d' else .lk d' := e
    by_cases c : is.contains i = true
    · rw [if_pos c] at e'; subst e'; cases m
    · rw [if_neg c] at e'; subst e'; cases m
theorem bor_imp {is : List Nat} {f : Gv → Rs Op} {σ : L2.St} {H : Hp} {Q : VK} (h : tI T (fun g => match f (frz is g) with | .ok (.val d _) _ => if scalarD d = true then .ok (.val d false) g else .bad | _ => .bad) σ H Q) : tI T f σ H Q := by
  obtain ⟨W, g, G, h⟩ := h
  refine ⟨less W (BorP is σ g), frz is g, frz_eok G, ?_⟩
  cases e : f (frz is g) with
  | bad => simp only [e] at h; exact h.elim
  | ex c fs g' => simp only [e] at h; exact h.elim
  | ok o g' =>
    cases o with
    | slot i => simp only [e] at h; exact h.elim
    | val d own =>
      simp only [e] at h
      by_cases sc : scalarD d = true
      · rw [if_pos sc] at h
        intro H' W' s' G' v r
        have sm : Same H H' := fun b x eb => s'.keep b x eb frz_mut
        have r2 : Rp W H' v d := by
          cases own with
          | false =>
            have r : Rp W' H' v d := r
            cases d <;> first | (cases sc; done) | skip
            all_goals (cases r; constructor)
          | true =>
            obtain ⟨a, _, _, o, _⟩ := r
            cases d <;> first | (cases sc; done) | exact o.elim
        exact h H' W (stp_new sm) (eok_new G sm) v r2
      · rw [if_neg sc] at h; exact h.elim
def tTys : List Ty → TA
  | [] => tNil
  | t :: r => tCons (tC (.ty t.name)) (tTys r)
theorem tTys_run : ∀ {ts : List Ty} {σ : L2.St} {H : Hp} {Q : List V → Hp → Prop}, Q (ts.map fun t => V.ty t.name) H → tTys ts σ H Q
  | [], _, _, _, q => q
  | t :: r, σ, H, Q, q => tTys_run (ts := r) (Q := fun xs H2 => Q (V.ty t.name :: xs) H2) q
theorem isT_imp {f : Gv → Rs Op} {ts : List Ty} (hl : ts.length ≤ 8) {σ : L2.St} {H : Hp} {Q : VK} (h : tI T (fun g => (f g).bind fun a g => finUn (tysO ts) a g) σ H Q) : tCB (rIsT ts) (tCons (tI T f) (tCons (tTup (tTys ts)) tNil)) σ H Q := by
  obtain ⟨W, g, G, h⟩ := h
  refine ⟨W, g, G, (Pst.bind G.wok h).mono fun a g1 W1 H1 _ s1 G1 h1 v r => ?_⟩
  obtain ⟨d, r', e1, e2, e3⟩ := finUn_ok h1.nb
  rw [e3] at h1
  obtain ⟨td, rfl⟩ := tysO_ok e2
  refine tTys_run ⟨by rw [List.length_map]; exact Nat.le_trans hl (by decide), fun p n => ?_⟩
  have sm := same_upd (o := .tup (ts.map fun t => V.ty t.name)) n
  have G2 := eok_new G1 sm
  exact ⟨W1, d, v, p, rfl, upd_same, (r.fwd G1 (stp_new sm)).opd.rb G2 e1, td, h1 _ W1 (stp_new sm) G2 _ (.bl _)⟩
theorem is_imp {f : Gv → Rs Op} {s : Sing} {n : Bool} {σ : L2.St} {H : Hp} {Q : VK} (h : tI T (fun g => (f g).bind fun a g => finUn (isO s n) a g) σ H Q) : tOp (rIs s n) (tI T f) (tC (singV s)) σ H Q := by
  obtain ⟨W, g, G, h⟩ := h
  refine ⟨W, g, G, (Pst.bind G.wok h).mono fun a g1 W1 H1 _ s1 G1 h1 v r => ?_⟩
  obtain ⟨d, r', e1, e2, e3⟩ := finUn_ok h1.nb
  rw [e3] at h1
  cases e2
  exact ⟨W1, d, r.opd.rb G1 e1, rfl, h1 H1 W1 Stp.refl G1 _ (.bl _)⟩
theorem neg_imp {f : Gv → Rs Op} {σ : L2.St} {H : Hp} {Q : VK} (h : tI T (fun g => (f g).bind fun a g => finUn negO a g) σ H Q) : tUn (rU fun i => .int (-i)) (tI T f) σ H Q := by
  obtain ⟨W, g, G, h⟩ := h
  refine ⟨W, g, G, (Pst.bind G.wok h).mono fun a g1 W1 H1 _ s1 G1 h1 v r => ?_⟩
  obtain ⟨d, r', e1, e2, e3⟩ := finUn_ok h1.nb
  rw [e3] at h1
  cases d <;> first | (exfalso; cases e2; done) | skip
  rename_i i
  have e4 : some (PyData.int (-i), false) = some r' := e2
  cases e4
  exact ⟨i, (r.opd.rb G1 e1).int, h1 H1 W1 Stp.refl G1 _ (.int _)⟩
theorem bits_imp {f : Gv → Rs Op} {σ : L2.St} {H : Hp} {Q : VK} (h : tI T (fun g => (f g).bind fun a g => finUn (meD .bitlen) a g) σ H Q) : tBits (tI T f) σ H Q := by
  obtain ⟨W, g, G, h⟩ := h
  refine ⟨W, g, G, (Pst.bind G.wok h).mono fun a g1 W1 H1 _ s1 G1 h1 v r => ?_⟩
  obtain ⟨d, r', e1, e2, e3⟩ := finUn_ok h1.nb
  rw [e3] at h1
  cases d <;> first | (exfalso; cases e2; done) | skip
  rename_i i
  have e4 : some (PyData.int (Builtin.Int.intBits i : Nat), false) = some r' := e2
  cases e4
  exact ⟨i, (r.opd.rb G1 e1).int, h1 H1 W1 Stp.refl G1 _ (.int _)⟩
/-- a constant -/
theorem const_imp {v : V} {d : D} (r : ∀ W H, Rp W H v d) {σ : L2.St} {H : Hp} {Q : VK} (h : tI T (fun g => .ok (.val d false) g) σ H Q) : tC v σ H Q := by
  obtain ⟨W, g, G, h⟩ := h
  exact h H W Stp.refl G v (r W H)
/-- {} -/
theorem dct_imp {σ : L2.St} {H : Hp} {Q : VK} (h : tI T (fun g => .ok (.val (.dict []) true) g) σ H Q) : tDNewK σ H Q := by
  obtain ⟨W, g, G, h⟩ := h
  intro p n
  exact (fin_new2 G G Stp.refl h) _ _ (same_upd n) ⟨p, rfl, n, [], upd_same, Nat.zero_le _, .nil⟩
end
end TL
/-! TL18: an expression that passes the check is walked by the language's text: each form. -/
namespace L2
open PySem
theorem PE.imp {X : Cx} {e : Expr} {t t' : TE} (h : PE X e t) (m : ∀ σ H Q, t' σ H Q → t σ H Q) : PE X e t' := TL.PE.imp h m
theorem PT.imp {X : Cx} {e : Expr} {t t' : TT} (h : PT X e t) (m : ∀ σ H Q, t' σ H Q → t σ H Q) : PT X e t' := TL.PT.imp h m
theorem PW.imp {X : Cx} {e : Expr} {t t' : TT} (h : PW X e t) (m : ∀ σ H Q, t' σ H Q → t σ H Q) : PW X e t' := TL.PW.imp h m
theorem PA.imp {X : Cx} {e : List Expr} {t t' : TA} (h : PA X e t) (m : ∀ σ H Q, t' σ H Q → t σ H Q) : PA X e t' := TL.PA.imp h m
theorem PK.imp {X : Cx} {e : List Keyword} {t t' : TA} (h : PK X e t) (m : ∀ σ H Q, t' σ H Q → t σ H Q) : PK X e t' := ⟨fun p pins s σ H Q I q => h.run p pins s σ H Q I (m σ H Q q)⟩
theorem PI.imp {X : Cx} {tg e : Expr} {w1 w2 : TI} (h : PI X tg e w1) (m : ∀ σ H R, w2 σ H R → w1 σ H R) : PI X tg e w2 := TL.PI.imp h m
theorem PO.imp {X : Cx} {e : Option Expr} {t t' : TO} (h : PO X e t) (m : ∀ σ H Q, t' σ H Q → t σ H Q) : PO X e t' := TL.PO.imp h m
theorem PS.imp {X : Cx} {e : Stmt} {t t' : TS} (h : PS X e t) (m : ∀ D σ H, t' D σ H → t D σ H) : PS X e t' := TL.PS.imp h m
theorem PSs.imp {X : Cx} {e : List Stmt} {t t' : TS} (h : PSs X e t) (m : ∀ D σ H, t' D σ H → t D σ H) : PSs X e t' := TL.PSs.imp h m
end L2
namespace TL
open PySem PySem.Spec PyProof.Rows L2
variable [Plc]

theorem Room.u66 {k : Nat} {A : Around} (r : Room k A) : A.units + 66 < cLine := by have := r.un; omega
theorem Room.u65 {k : Nat} {A : Around} (r : Room k A) : A.units + 65 < cLine := by have := r.un; omega

/-! ### x[::-1] -/
theorem revS_len (z : Str) : (revS z).length = z.length := by
  show z.cps.toList.reverse.toArray.size = z.cps.size
  simp
theorem str_pick (z : Str) : (⟨((Builtin.Str.strSliceIndices none none (-1) z.length).filterMap (z.cps[·]?)).toArray⟩ : Str) = revS z := by
  have e : Builtin.Str.strSliceIndices none none (-1) z.length = sliceRange ((z.length : Int) - 1) (-1) (-1) := rfl
  rw [e, PySem.W.krv_sliceRange, PySem.W.krv_range, List.filterMap_reverse, show z.length = z.cps.size from rfl, PySem.W.krv_all]
  rfl
theorem RpA.revAux {W : Addr → Prop} {H : Hp} : ∀ {vs : List V} {ds : List D} {us : List V} {es : List D}, RpA W H vs ds → RpA W H us es → RpA W H (vs.reverseAux us) (ds.reverseAux es)
  | [], ds, us, es, r, q => by
    cases r
    exact q
  | v :: vs, ds, us, es, r, q => by
    cases r with
    | @cons _ _ d ds r1 r2 => exact RpA.revAux (vs := vs) (ds := ds) (us := v :: us) (es := d :: es) r2 (.cons r1 q)
theorem RpA.rev {W : Addr → Prop} {H : Hp} {vs : List V} {ds : List D} (r : RpA W H vs ds) : RpA W H vs.reverse ds.reverse := RpA.revAux r .nil
section
variable {X : Cx}
theorem pe_rev {e : Expr} {te : TE} {k : Nat} {p1 p2 p3 pos : Pos} (he : PE X e te) : PE X (.Subscript e (.Slice none none (some (.UnaryOp .USub (.Constant (.int 1) k p1) p2)) p3) pos) (tRv te) := by
  refine ⟨fun pins s σ H Q I h => ?_⟩
  refine Subscript_ (thn (he.run pins s σ H _ I h) fun v s1 ⟨x, H1, I1, r1, q1⟩ => ?_)
  have hst : PO X (some (.UnaryOp .USub (.Constant (.int 1) k p1) p2)) (tPart (tUn (rU fun i => .int (-i)) (tC (.int 1)))) := po_some (pe_un un_neg pe_int)
  refine wpAny_Slice (thn (po_none.run pins s1 σ H1 (fun o H2 => o = none ∧ H2 = H1) I1 ⟨rfl, rfl⟩) fun vl s2 ⟨l, H2, I2, pl, el, e2⟩ => ?_)
  subst el e2
  refine thn (po_none.run pins s2 σ H2 (fun o H3 => o = none ∧ H3 = H2) I2 ⟨rfl, rfl⟩) fun vu s3 ⟨u, H3, I3, pu, eu, e3⟩ => ?_
  subst eu e3
  refine thn (hst.run pins s3 σ H3 (fun o H4 => o = some (-1) ∧ H4 = H3) I3 ⟨1, rfl, -1, rfl, rfl, rfl⟩) fun vs s4 ⟨o, H4, I4, ps, eo, e4⟩ => ?_
  subst eo e4
  have I5 : Inv X pins σ H4 { s4 with heap := s4.heap.push { cls := .type "slice", data := .fields #[vl, vu, vs] } } := I4.kept (t' := s4.toks) fun b ob q => Heap.get?_push_of_some _ q
  obtain ⟨W, d, r, own, wok, rb, f, q⟩ := q1
  cases d <;> first | (exfalso; cases f; done) | skip
  · rename_i z
    have f' : (if z.length ≤ sizeLine then some (PyData.str (revS z), false) else none) = some (r, own) := f
    by_cases l : z.length ≤ sizeLine
    · rw [if_pos l] at f'
      cases f'
      have ex := rb.str
      subst ex
      obtain ⟨t, rfl⟩ := r1
      obtain ⟨l1, rfl, el1⟩ := IsPart.raw pl
      obtain ⟨u1, rfl, eu1⟩ := IsPart.raw pu
      obtain ⟨s1', rfl, es1⟩ := IsPart.raw ps
      show wpAny (model X.prog X.w) X.A (subscriptTail e (.Slice none none (some (.UnaryOp .USub (.Constant (.int 1) k p1) p2)) p3) (.str z t) (.ref s4.heap.objs.size)) (EP X pins σ Q) X.xe { s4 with heap := s4.heap.push { cls := .type "slice", data := .fields #[partValue l1, partValue u1, partValue s1'] } }
      refine tail_any (ops := [.str z t, .ref s4.heap.objs.size]) (typeIs_str _ z t) (PySem.F.slot_str_getitem.lookup) ?_ (by with_unfolding_all rfl)
      refine wpAny_getItem_str_slice (l := l1) (u := u1) (st := s1') ⟨_, Heap.get?_push_size _ rfl, rfl, rfl⟩ (by rw [es1]; rfl) ?_
      unfold sliceMade slicePicked
      rw [el1, eu1, es1]
      show Made.post (if ((-1 : Int) == 1 && (Builtin.Str.strSliceIndices none none (-1) z.length).length == z.length) = true then Made.val (.str z t) else Made.str ⟨((Builtin.Str.strSliceIndices none none (-1) z.length).filterMap (z.cps[·]?)).toArray⟩) _ _
      rw [if_neg (by rw [show ((-1 : Int) == 1) = false from rfl, Bool.false_and]; decide), str_pick]
      exact ⟨by rw [revS_len]; exact l, .str _, H4, I5.tok _, ⟨_, rfl⟩, q.str⟩
    · rw [if_neg l] at f'; cases f'
  · rename_i ds
    have f' : some (PyData.list ds.reverse, true) = some (r, own) := f
    cases f'
    obtain ⟨a, xs, rfl, ra, la, qa⟩ := rb.lst
    cases r1
    obtain ⟨its, r, ht, hz⟩ := I5.list (sqL ra)
    have hlen := r.length
    show wpAny (model X.prog X.w) X.A (subscriptTail e (.Slice none none (some (.UnaryOp .USub (.Constant (.int 1) k p1) p2)) p3) (.ref a) (.ref s4.heap.objs.size)) (EP X pins σ Q) X.xe { s4 with heap := s4.heap.push { cls := .type "slice", data := .fields #[vl, vu, vs] } }
    refine tail_any (ops := [.ref a, .ref s4.heap.objs.size]) ht.isList.typeIs (PySem.slot_list_getitem.lookup) ?_ (by with_unfolding_all rfl)
    refine wpAny_getItem_list_slice ht.isList (Heap.IsSliceOf.new _ vl vu vs) pl pu ps (by decide) ?_ (by rw [List.size_toArray]; omega)
    rw [PySem.W.krv_pick]
    have fr := I5.hok.fresh (Nat.le_refl _)
    have lz : xs.reverse.length ≤ sizeLine := by rw [List.length_reverse]; exact hz
    refine ⟨.ref _, _, I5.laid (t' := s4.toks) (o := .lst xs.reverse) (fun b ob q => Heap.get?_push_of_some _ q) (Nat.le_refl _) ?_, rfl, q.lst fr lz qa.rev⟩
    exact ⟨lz, _, 0, r.reverse, Heap.get?_push_size _ rfl⟩
end
/-! ### calls with keywords -/
theorem Pend.app {W1 : Addr → Prop} {σ : L2.St} {g g1 : Gv} {H H1 : Hp} : ∀ {vs us : List V} {os ps : List Op}, Pend σ g H W1 g1 H1 vs os → Pend σ g H W1 g1 H1 us ps →
    (∀ p, p ∈ vs.zip os → ∀ a, ownA p.1 p.2 a → ∀ q, q ∈ us.zip ps → ¬ ownA q.1 q.2 a) → Pend σ g H W1 g1 H1 (vs ++ us) (os ++ ps)
  | _, _, _, _, .nil, p, _ => p
  | _, _, _, _, .cons (v := v) (o := o) (vs := vs) (os := os) r d t, p, x => by
    refine .cons r (fun a ha q hq => ?_) (Pend.app t p fun q hq => x q (by rw [List.zip_cons_cons]; exact List.mem_cons_of_mem _ hq))
    have hq : q ∈ (vs ++ _).zip (os ++ _) := hq
    rw [List.zip_append t.len] at hq
    rcases List.mem_append.mp hq with z | z
    · exact d a ha q z
    · exact x (v, o) (by rw [List.zip_cons_cons]; exact List.mem_cons_self) a ha q z
theorem Pend.fwd {W1 W2 : Addr → Prop} {σ : L2.St} {g g1 g2 : Gv} {H H1 H2 : Hp} (G1 : EOk W1 H1 σ g1) (s : Stp W1 σ g1 H1 W2 σ g2 H2) : ∀ {vs : List V} {os : List Op}, Pend σ g H W1 g1 H1 vs os → Pend σ g H W2 g2 H2 vs os
  | _, _, .nil => .nil
  | _, _, .cons r d t => .cons (r.fwd G1 s) d (Pend.fwd G1 s t)
theorem args_app {T : Th} {fa fr : Gv → Rs (List Op)} {σ : L2.St} {H : Hp} {Q : List V → Hp → Prop} (h : tIs T (fun g => (fa g).bind fun as g => (fr g).bind fun bs g => .ok (as ++ bs) g) σ H Q) :
    tIs T fa σ H fun vs H1 => tIs T fr σ H1 fun zs H2 => Q (vs ++ zs) H2 := by
  obtain ⟨W, g, G, h⟩ := h
  refine ⟨W, g, G, (Pst.bind G.wok h).mono fun a g1 W1 H1 _ s1 G1 h1 v r1 => ⟨W1, g1, G1, (Pst.bind G1.wok h1).mono fun as g2 W2 H2 _ s2 G2 h2 vs p2 => ?_⟩⟩
  refine h2 H2 W2 Stp.refl G2 (v ++ vs) ((r1.fwd G1 s2).app (p2.back s1) fun p hp b ob q hq oq => ?_)
  obtain ⟨_, n, _, x, hx⟩ := r1.fresh hp ob
  obtain ⟨_, _, f, _⟩ := p2.fresh hq oq
  rcases f with z | z
  · rw [hx] at z; cases z
  · exact n z.held

/-! ### arguments in another order -/
theorem Pend.at {W1 : Addr → Prop} {σ : L2.St} {g g1 : Gv} {H H1 : Hp} : ∀ {vs : List V} {os : List Op}, Pend σ g H W1 g1 H1 vs os → ∀ {i : Nat} {v : V} {o : Op}, vs[i]? = some v → os[i]? = some o → ORp σ g H W1 g1 H1 v o
  | _, _, .nil, i, v, o, e, _ => by simp at e
  | _, _, .cons r d t, 0, v, o, e1, e2 => by
    cases e1
    cases e2
    exact r
  | _, _, .cons r d t, i + 1, v, o, e1, e2 => t.at (i := i) e1 e2
theorem zip_at : ∀ {vs : List V} {os : List Op} {i : Nat} {v : V} {o : Op}, vs[i]? = some v → os[i]? = some o → (v, o) ∈ vs.zip os
  | [], _, _, _, _, e, _ => by simp at e
  | _ :: _, [], _, _, _, _, e => by simp at e
  | v :: vs, o :: os, 0, _, _, e1, e2 => by
    cases e1
    cases e2
    exact List.mem_cons_self
  | v :: vs, o :: os, i + 1, _, _, e1, e2 => List.mem_cons_of_mem _ (zip_at (i := i) e1 e2)
theorem Pend.dis {W1 : Addr → Prop} {σ : L2.St} {g g1 : Gv} {H H1 : Hp} : ∀ {vs : List V} {os : List Op}, Pend σ g H W1 g1 H1 vs os → ∀ {i j : Nat} {v u : V} {o p : Op} {a : Addr}, i ≠ j → vs[i]? = some v → os[i]? = some o → vs[j]? = some u → os[j]? = some p → ownA v o a → ¬ ownA u p a
  | _, _, .nil, i, j, v, u, o, p, a, _, e, _, _, _, _ => by simp at e
  | _, _, .cons r d t, 0, 0, v, u, o, p, a, n, _, _, _, _, _ => absurd rfl n
  | _, _, .cons r d t, 0, j + 1, v, u, o, p, a, n, e1, e2, e3, e4, w => by
    cases e1
    cases e2
    exact d a w (u, p) (zip_at (i := j) e3 e4)
  | _, _, .cons r d t, i + 1, 0, v, u, o, p, a, n, e1, e2, e3, e4, w => fun z => by
    cases e3
    cases e4
    exact d a z (v, o) (zip_at (i := i) e1 e2) w
  | _, _, .cons r d t, i + 1, j + 1, v, u, o, p, a, n, e1, e2, e3, e4, w => t.dis (i := i) (j := j) (fun z => n (by rw [z])) e1 e2 e3 e4 w
theorem permO_len {α : Type} : ∀ {pm : List Nat} {os q : List α}, permO pm os = some q → q.length = pm.length
  | [], os, q, h => by cases h; rfl
  | i :: r, os, q, h => by
    unfold permO at h
    cases e : os[i]? with
    | none => rw [e] at h; cases h
    | some o =>
      rw [e] at h
      cases e2 : permO r os with
      | none => simp only [e2] at h; cases h
      | some q2 =>
        simp only [e2] at h
        cases h
        rw [List.length_cons, List.length_cons, permO_len e2]
theorem permO_cons {α : Type} {i : Nat} {r : List Nat} {os q : List α} (h : permO (i :: r) os = some q) : ∃ o q2, os[i]? = some o ∧ permO r os = some q2 ∧ q = o :: q2 := by
  unfold permO at h
  cases e : os[i]? with
  | none => rw [e] at h; cases h
  | some o =>
    rw [e] at h
    cases e2 : permO r os with
    | none => simp only [e2] at h; cases h
    | some q2 =>
      simp only [e2] at h
      cases h
      exact ⟨o, q2, rfl, rfl, rfl⟩
theorem permO_mk {α : Type} {i : Nat} {r : List Nat} {os q : List α} {o : α} (h1 : os[i]? = some o) (h2 : permO r os = some q) : permO (i :: r) os = some (o :: q) := by
  unfold permO
  rw [h1, h2]
theorem Pend.perm {W1 : Addr → Prop} {σ : L2.St} {g g1 : Gv} {H H1 : Hp} {vs : List V} {os : List Op} (p : Pend σ g H W1 g1 H1 vs os) : ∀ {pm : List Nat} {q : List Op}, pm.Nodup → permO pm os = some q →
    ∃ us, permO pm vs = some us ∧ Pend σ g H W1 g1 H1 us q ∧ ∀ z ∈ us.zip q, ∃ j ∈ pm, vs[j]? = some z.1 ∧ os[j]? = some z.2
  | [], q, _, h => by
    cases h
    exact ⟨[], rfl, .nil, fun z hz => by simp at hz⟩
  | i :: r, q, nd, h => by
    obtain ⟨o, q2, e1, e2, rfl⟩ := permO_cons h
    obtain ⟨n1, n2⟩ := List.nodup_cons.mp nd
    obtain ⟨us, h1, h2, h3⟩ := p.perm n2 e2
    obtain ⟨v, ev⟩ : ∃ v, vs[i]? = some v := by
      have l := (List.getElem?_eq_some_iff.mp e1).1
      rw [← p.len] at l
      exact ⟨_, List.getElem?_eq_getElem l⟩
    refine ⟨v :: us, permO_mk ev h1, .cons (p.at ev e1) (fun a ha z hz => ?_) h2, fun z hz => ?_⟩
    · obtain ⟨j, hj, x1, x2⟩ := h3 z hz
      exact p.dis (fun e => n1 (by rw [e]; exact hj)) ev e1 x1 x2 ha
    · rw [List.zip_cons_cons] at hz
      rcases List.mem_cons.mp hz with rfl | hz
      · exact ⟨i, List.mem_cons_self, ev, e1⟩
      · obtain ⟨j, hj, x⟩ := h3 z hz
        exact ⟨j, List.mem_cons_of_mem _ hj, x⟩
theorem Vals.perm {vs : List V} {ws : List Value} (r : Vals vs ws) : ∀ {pm : List Nat} {us : List V}, permO pm vs = some us → ∃ xs, permO pm ws = some xs ∧ Vals us xs
  | [], us, h => by
    cases h
    exact ⟨[], rfl, .nil⟩
  | i :: r', us, h => by
    obtain ⟨o, q2, e1, e2, rfl⟩ := permO_cons h
    obtain ⟨xs, h1, h2⟩ := Vals.perm r e2
    obtain ⟨u, eu, ru⟩ := L2.Vals.get r e1
    exact ⟨u :: xs, permO_mk eu h1, .cons ru h2⟩
theorem perm_imp {T : Th} {f : Gv → Rs (List Op)} {pm : List Nat} (nd : pm.Nodup) {σ : L2.St} {H : Hp} {Q : List V → Hp → Prop} (h : tIs T (fun g => (f g).bind fun os g => ofO (permO pm os) g) σ H Q) : tIs T f σ H fun vs H1 => ∃ us, permO pm vs = some us ∧ Q us H1 := by
  obtain ⟨W, g, G, h⟩ := h
  refine ⟨W, g, G, (Pst.bind G.wok h).mono fun os g1 W1 H1 _ s1 G1 h1 vs p => ?_⟩
  cases e : permO pm os with
  | none => rw [e] at h1; exact h1.elim
  | some q =>
    rw [e] at h1
    obtain ⟨us, e2, p2, _⟩ := p.perm nd e
    exact ⟨us, e2, h1 H1 W1 Stp.refl G1 us p2⟩
def tCallGP (T : Th) (sp : Sp) (pm : List Nat) (t tk : TA) : TE := fun σ H Q => t σ H fun vs H1 => tk σ H1 fun zs H2 => ∃ us, permO pm (vs ++ zs) = some us ∧ sp us H2 Q fun cls d H' => T.wx cls d σ H'
def tCallGK (T : Th) (sp : Sp) (t tk : TA) : TE := fun σ H Q => t σ H fun vs H1 => tk σ H1 fun zs H2 => sp (vs ++ zs) H2 Q fun cls d H' => T.wx cls d σ H'
section
variable {X : Cx} {k : Nat} {f : Addr} {fd : FuncData} {ps : List Str} {sp : Sp} {T : Th} {x : Str} {p pos : Pos} {e : Expr} {es : List Expr} {kws : List Keyword} {t tk : TA}
theorem kw_all : ∀ {kws : List Keyword} {ks : List Str} {env : Env} {pos : Pos}, kws.map (·.arg) = ks.map some → (backToKw pos (keywordEach kws env)).all (·.1.isSome) = true ∧ (backToKw pos (keywordEach kws env)).any (·.1.isNone) = false ∧ (backToKw pos (keywordEach kws env)).filterMap (·.1) = ks
  | [], ks, env, pos, h => by
    cases ks with
    | nil => exact ⟨rfl, rfl, rfl⟩
    | cons _ _ => cases h
  | ⟨nm, v, q⟩ :: r, ks, env, pos, h => by
    cases ks with
    | nil => cases h
    | cons y ys =>
      rw [List.map_cons, List.map_cons] at h
      obtain ⟨h1, h2⟩ := List.cons.inj h
      have h1 : nm = some y := h1
      subst h1
      obtain ⟨a, b, c⟩ := kw_all (env := env) (pos := pos) h2
      refine ⟨?_, ?_, ?_⟩
      · show (true && (backToKw pos (keywordEach r env)).all (·.1.isSome)) = true
        rw [a]; rfl
      · show (false || (backToKw pos (keywordEach r env)).any (·.1.isNone)) = false
        rw [b]; rfl
      · show y :: (backToKw pos (keywordEach r env)).filterMap (·.1) = y :: ys
        rw [c]
theorem run_GK {pins : List (Addr × Obj)} {σ : L2.St} {H : Hp} {s : Shared} {Q : VK} {m : Nat} {us ws : List Value} {vs zs : List V} (F : FnG X.prog X.w X.K X.mg X.base k f fd ps sp) (hg : X.A.guards = some []) (hr : Room k X.A) (tk : Takes X T.wx)
    (hb : ∀ (s : Shared) (us ws : List Value), us.length = m → (us ++ ws).length = ps.length → BindsTo s fd ⟨us, (ps.drop m).zip ws⟩ (ps.zip (us ++ ws))) (hm : us.length = m)
    (I : Inv X pins σ H s) (r : Vals vs us) (rz : Vals zs ws) (h : sp (vs ++ zs) H Q fun cls d H' => T.wx cls d σ H') : wpAny (model X.prog X.w) X.A (call (.ref f) us ((ps.drop m).zip ws)) (EP X pins σ Q) X.xe s := by
  have r2 : Vals (vs ++ zs) (us ++ ws) := Vals.append r rz
  have hl : (us ++ ws).length = ps.length := by rw [← r2.length]; exact F.len _ _ _ _ h
  exact wp_call_of (run_G F hg hr tk I (hb s us ws hm hl) r2 h)
theorem run_GP {pins : List (Addr × Obj)} {σ : L2.St} {H : Hp} {s : Shared} {Q : VK} {m : Nat} {kn : List Str} {pm : List Nat} {us ws : List Value} {vs zs ys : List V} (F : FnG X.prog X.w X.K X.mg X.base k f fd ps sp) (hg : X.A.guards = some []) (hr : Room k X.A) (tk : Takes X T.wx)
    (hb : ∀ (s : Shared) (us ws xs : List Value), us.length = m → ws.length = kn.length → permO pm (us ++ ws) = some xs → BindsTo s fd ⟨us, kn.zip ws⟩ (ps.zip xs)) (hm : us.length = m) (hn : ws.length = kn.length)
    (I : Inv X pins σ H s) (r : Vals vs us) (rz : Vals zs ws) (ey : permO pm (vs ++ zs) = some ys) (h : sp ys H Q fun cls d H' => T.wx cls d σ H') : wpAny (model X.prog X.w) X.A (call (.ref f) us (kn.zip ws)) (EP X pins σ Q) X.xe s := by
  obtain ⟨xs, ex, r2⟩ := Vals.perm (Vals.append r rz) ey
  exact wp_call_of (run_G F hg hr tk I (hb s us ws xs hm hn ex) r2 h)
/-- f(e, .., k = e', ..), the keywords in any order -/
theorem pe_callGP {m : Nat} {kn : List Str} {pm : List Nat} (F : FnG X.prog X.w X.K X.mg X.base k f fd ps sp) (hg : X.A.guards = some []) (hr : Room k X.A) (gl : Gl X x) (hm : X.mg x = some (.ref f)) (hk : PySem.W.keepIn X.K (.ref f) = true)
    (hb : ∀ (s : Shared) (us ws xs : List Value), us.length = m → ws.length = kn.length → permO pm (us ++ ws) = some xs → BindsTo s fd ⟨us, kn.zip ws⟩ (ps.zip xs)) (hml : (e :: es).length = m) (ht : ∀ σ H Q, t σ H Q → t σ H fun vs H1 => vs.length = m ∧ Q vs H1)
    (htk : ∀ σ H Q, tk σ H Q → tk σ H fun vs H1 => vs.length = kn.length ∧ Q vs H1)
    (tk' : Takes X T.wx) (ha : PA X (e :: es) t) (hkw : PK X kws tk) (hks : kws.map (·.arg) = kn.map some)
    (hd : (x == ("__debug__" : Str)) = false) (he : starEach (e :: es) X.env = (false, eval e X.env) :: starEach es X.env) (hp : (backTo pos (starEach es X.env)).any (·.1) = false) : PE X (.Call (.Name x p) (e :: es) kws pos) (tCallGP T sp pm t tk) := by
  obtain ⟨k1, k2, k3⟩ := kw_all (env := X.env) (pos := pos) hks
  refine ⟨fun pins s σ H Q I h => ?_⟩
  refine wpAny_Call_Name_kw (ld_glob I gl hm ?_ hd)
  refine PySem.W.callWith_KW (h₀ := X.base) I.ok.mod.kin hk k1 (thn (ha.run pos pins s σ H _ I (ht _ _ _ h)) fun us s1 ⟨vs, H1, I1, r, hv, q⟩ => ?_) ?_ he
  · refine thn (hkw.run pos pins s1 σ H1 _ I1 (htk _ _ _ q)) fun ws s2 ⟨zs, H2, I2, rz, hz, ys, ey, q2⟩ => ⟨I2.kIn, ?_⟩
    rw [k3]
    exact run_GP (us := us) F hg hr tk' hb (r.length.symm.trans hv) (rz.length.symm.trans hz) I2 r rz ey q2
  · rw [k2, he]
    show ((false || (backTo pos (starEach es X.env)).any (·.1)) || false) = false
    rw [hp]; rfl
theorem pe_callGP0 {kn : List Str} {pm : List Nat} (F : FnG X.prog X.w X.K X.mg X.base k f fd ps sp) (hg : X.A.guards = some []) (hr : Room k X.A) (gl : Gl X x) (hm : X.mg x = some (.ref f)) (hk : PySem.W.keepIn X.K (.ref f) = true)
    (hb : ∀ (s : Shared) (us ws xs : List Value), us.length = 0 → ws.length = kn.length → permO pm (us ++ ws) = some xs → BindsTo s fd ⟨us, kn.zip ws⟩ (ps.zip xs))
    (htk : ∀ σ H Q, tk σ H Q → tk σ H fun vs H1 => vs.length = kn.length ∧ Q vs H1)
    (tk' : Takes X T.wx) (hkw : PK X kws tk) (hks : kws.map (·.arg) = kn.map some)
    (hd : (x == ("__debug__" : Str)) = false) : PE X (.Call (.Name x p) [] kws pos) (tCallGP T sp pm tNil tk) := by
  obtain ⟨k1, k2, k3⟩ := kw_all (env := X.env) (pos := pos) hks
  refine ⟨fun pins s σ H Q I h => ?_⟩
  refine wpAny_Call_Name_kw (ld_glob I gl hm ?_ hd)
  have h : tk σ H fun zs H2 => ∃ us, permO pm ([] ++ zs) = some us ∧ sp us H2 Q fun cls d H' => T.wx cls d σ H' := h
  refine PySem.W.callWith_KW0 (h₀ := X.base) I.ok.mod.kin hk k1 (thn (hkw.run pos pins s σ H _ I (htk _ _ _ h)) fun ws s2 ⟨zs, H2, I2, rz, hz, ys, ey, q2⟩ => ⟨I2.kIn, ?_⟩) ?_
  · rw [k3]
    exact run_GP F hg hr tk' hb rfl (rz.length.symm.trans hz) I2 .nil rz ey q2
  · rw [k2]
    rfl
/-- f(e, .., k = e', ..) -/
theorem pe_callGK {m : Nat} (F : FnG X.prog X.w X.K X.mg X.base k f fd ps sp) (hg : X.A.guards = some []) (hr : Room k X.A) (gl : Gl X x) (hm : X.mg x = some (.ref f)) (hk : PySem.W.keepIn X.K (.ref f) = true)
    (hb : ∀ (s : Shared) (us ws : List Value), us.length = m → (us ++ ws).length = ps.length → BindsTo s fd ⟨us, (ps.drop m).zip ws⟩ (ps.zip (us ++ ws))) (hml : (e :: es).length = m) (ht : ∀ σ H Q, t σ H Q → t σ H fun vs H1 => vs.length = m ∧ Q vs H1)
    (tk' : Takes X T.wx) (ha : PA X (e :: es) t) (hkw : PK X kws tk) (hks : kws.map (·.arg) = (ps.drop m).map some)
    (hd : (x == ("__debug__" : Str)) = false) (he : starEach (e :: es) X.env = (false, eval e X.env) :: starEach es X.env) (hp : (backTo pos (starEach es X.env)).any (·.1) = false) : PE X (.Call (.Name x p) (e :: es) kws pos) (tCallGK T sp t tk) := by
  obtain ⟨k1, k2, k3⟩ := kw_all (env := X.env) (pos := pos) hks
  refine ⟨fun pins s σ H Q I h => ?_⟩
  refine wpAny_Call_Name_kw (ld_glob I gl hm ?_ hd)
  refine PySem.W.callWith_KW (h₀ := X.base) I.ok.mod.kin hk k1 (thn (ha.run pos pins s σ H _ I (ht _ _ _ h)) fun us s1 ⟨vs, H1, I1, r, hv, q⟩ => ?_) ?_ he
  · refine thn (hkw.run pos pins s1 σ H1 _ I1 q) fun ws s2 ⟨zs, H2, I2, rz, q2⟩ => ⟨I2.kIn, ?_⟩
    rw [k3]
    exact run_GK (us := us) F hg hr tk' hb (r.length.symm.trans hv) I2 r rz q2
  · rw [k2, he]
    show ((false || (backTo pos (starEach es X.env)).any (·.1)) || false) = false
    rw [hp]; rfl
theorem pe_callGK0 (F : FnG X.prog X.w X.K X.mg X.base k f fd ps sp) (hg : X.A.guards = some []) (hr : Room k X.A) (gl : Gl X x) (hm : X.mg x = some (.ref f)) (hk : PySem.W.keepIn X.K (.ref f) = true)
    (hb : ∀ (s : Shared) (us ws : List Value), us.length = 0 → (us ++ ws).length = ps.length → BindsTo s fd ⟨us, (ps.drop 0).zip ws⟩ (ps.zip (us ++ ws)))
    (tk' : Takes X T.wx) (hkw : PK X kws tk) (hks : kws.map (·.arg) = (ps.drop 0).map some)
    (hd : (x == ("__debug__" : Str)) = false) : PE X (.Call (.Name x p) [] kws pos) (tCallGK T sp tNil tk) := by
  obtain ⟨k1, k2, k3⟩ := kw_all (env := X.env) (pos := pos) hks
  refine ⟨fun pins s σ H Q I h => ?_⟩
  refine wpAny_Call_Name_kw (ld_glob I gl hm ?_ hd)
  refine PySem.W.callWith_KW0 (h₀ := X.base) I.ok.mod.kin hk k1 (thn (hkw.run pos pins s σ H _ I h) fun ws s2 ⟨zs, H2, I2, rz, q2⟩ => ⟨I2.kIn, ?_⟩) ?_
  · rw [k3]
    exact run_GK F hg hr tk' hb rfl I2 .nil rz q2
  · rw [k2]
    rfl
end
end TL
/-! TL19: the forms of expressions, one by one. -/
namespace TL
open PySem PySem.Spec PyProof.Rows L2
variable [Plc]

section
variable (G : List Fn) (C : Calls) (k : Nat)
def SE (e : E) : Prop := ∀ {T : Th} {B : BC} {X : Cx} {ast : Expr}, XOk T G C k B X → mE G e B ast = true → PE X ast (tI T (ev C (wrOf G) e)) ∧ (tOk e ast = true → PT X ast (tT T (ev C (wrOf G) e)))
def AllSE : Es → Prop
  | .nil => True
  | .cons x r => SE G C k x ∧ AllSE r
def SO (e : Eo) : Prop := ∀ {T : Th} {B : BC} {X : Cx} {o : Option Expr}, XOk T G C k B X → mO G e B o = true → PO X o (tPartI T (evo C (wrOf G) e))
def SIt (it : It) : Prop := ∀ {T : Th} {B : BC} {X : Cx} {tg a : Expr}, XOk T G C k B X → mIt G it B tg a = true → PI X tg a (tIt T it.isRng (evIt C (wrOf G) it))
end
section
variable {G : List Fn} {C : Calls} {k : Nat} {T : Th} {B : BC} {X : Cx}

theorem and2 {a b : Bool} (h : (a && b) = true) : a = true ∧ b = true := by
  cases a <;> cases b <;> first | exact ⟨rfl, rfl⟩ | cases h
theorem dec {p : Prop} [Decidable p] (h : decide p = true) : p := of_decide_eq_true h
theorem nt {b : Bool} (h : (!b) = true) : b = false := by cases b <;> first | rfl | cases h

theorem arm_v {i : Nat} : SE G C k (.v i) := by
  intro T B X ast O h
  cases ast <;> first | (cases h; done) | skip
  rename_i x p
  have p : PE X (.Name x p) (tI T (ev C (wrOf G) (.v i))) := (O.var h).imp fun _ _ _ q => rdV_imp (i := i) q
  exact ⟨p, fun t => pt_of p t⟩
theorem arm_mv {i : Nat} : SE G C k (.mv i) := by
  intro T B X ast O h
  cases ast <;> first | (cases h; done) | skip
  rename_i x p
  have p : PE X (.Name x p) (tI T (ev C (wrOf G) (.mv i))) := (O.var h).imp fun _ _ _ q => rdM_imp (i := i) q
  exact ⟨p, fun t => pt_of p t⟩
theorem arm_b {i : Nat} : SE G C k (.b i) := by
  intro T B X ast O h
  cases ast <;> first | (cases h; done) | skip
  rename_i x p
  have p : PE X (.Name x p) (tI T (ev C (wrOf G) (.b i))) := (O.var h).imp fun _ _ _ q => rdB_imp (i := i) q
  exact ⟨p, fun t => pt_of p t⟩
theorem k_pe {d : D} {c : Const} {j : Nat} {p : Pos} {t : TE} (h : kOk d c = true) (ht : ∀ v, (∀ W H, Rp W H v d) → ∀ σ H Q, t σ H Q → tC v σ H Q) : PE X (.Constant c j p) t := by
  cases d <;> cases c <;> first | (cases h; done) | skip
  · exact pe_non.imp (ht _ fun _ _ => .non)
  · rename_i a b
    have e : a = b := by cases a <;> cases b <;> first | rfl | cases h
    subst e
    exact pe_bl.imp (ht _ fun _ _ => .bl _)
  · rename_i a b
    have e : a = b := eq_of_beq h
    subst e
    exact pe_int.imp (ht _ fun _ _ => .int _)
  · rename_i a b
    have e : a = b := dec h
    subst e
    exact pe_str.imp (ht _ fun _ _ => .str _)
theorem arm_k {d : D} : SE G C k (.k d) := by
  intro T B X ast O h
  cases ast <;> first | (cases h; done) | skip
  rename_i c j p
  have p : PE X (.Constant c j p) (tI T (ev C (wrOf G) (.k d))) := k_pe h fun v r σ H Q q => const_imp r q
  exact ⟨p, fun t => pt_of p t⟩
theorem arm_rev {x : E} (hx : SE G C k x) : SE G C k (.rev x) := by
  intro T B X ast O h
  cases ast <;> first | (cases h; done) | skip
  rename_i a sl p
  obtain ⟨h1, h2⟩ := and2 h
  obtain ⟨k1, p1, p2, p3, e⟩ : ∃ k1 p1 p2 p3, sl = .Slice none none (some (.UnaryOp .USub (.Constant (.int 1) k1 p1) p2)) p3 := by
    unfold revAt at h1
    split at h1
    · exact ⟨_, _, _, _, rfl⟩
    · cases h1
  subst e
  have pr : PE X (.Subscript a (.Slice none none (some (.UnaryOp .USub (.Constant (.int 1) k1 p1) p2)) p3) p) (tI T (ev C (wrOf G) (.rev x))) := (pe_rev (hx O h2).1).imp fun _ _ _ q => rev_imp (f := ev C (wrOf G) x) q
  exact ⟨pr, fun t => pt_of pr t⟩
theorem cName_at {i : Nat} {x : Str} {d : D} (h : cName G i x d = true) : ∃ F, G[i]? = some F ∧ F.name = x ∧ F.kc = some d := by
  unfold cName at h
  split at h
  · rename_i F e
    obtain ⟨h1, h2⟩ := and2 h
    refine ⟨F, e, dec h1, ?_⟩
    split at h2
    · rename_i d' e'
      rw [e']
      cases d' <;> cases d <;> first | (cases h2; done) | rfl | skip
      · rename_i a b
        rw [show a = b from eq_of_beq h2]
      · rename_i a b
        rw [show a = b from eq_of_beq h2]
      · rename_i a b
        rw [show a = b from dec h2]
    · cases h2
  · cases h
theorem arm_bin {o : Operator} {x y : E} (hx : SE G C k x) (hy : SE G C k y) : SE G C k (.bin o x y) := by
  intro T B X ast O h
  cases ast <;> first | (cases h; done) | skip
  rename_i a o' b p
  obtain ⟨h, h4⟩ := and2 h
  obtain ⟨h, h3⟩ := and2 h
  obtain ⟨h1, h2⟩ := and2 h
  have e := dec h1
  subst e
  have p : PE X (.BinOp a o b p) (tI T (ev C (wrOf G) (.bin o x y))) := (pe_op (opD_bin h2) (hx O h3).1 (hy O h4).1).imp fun _ _ _ q => two_imp (fa := ev C (wrOf G) x) (fb := ev C (wrOf G) y) q
  exact ⟨p, fun t => pt_of p t⟩
theorem arm_neg {x : E} (hx : SE G C k x) : SE G C k (.neg x) := by
  intro T B X ast O h
  cases ast <;> first | (cases h; done) | skip
  rename_i u a p
  cases u <;> first | (cases h; done) | skip
  have p : PE X (.UnaryOp .USub a p) (tI T (ev C (wrOf G) (.neg x))) := (pe_un un_neg (hx O h).1).imp fun _ _ _ q => neg_imp (f := ev C (wrOf G) x) q
  exact ⟨p, fun t => pt_of p t⟩
theorem arm_not {x : E} (hx : SE G C k x) : SE G C k (.not x) := by
  intro T B X ast O h
  cases ast <;> first | (cases h; done) | skip
  rename_i u a p
  cases u <;> first | (cases h; done) | skip
  exact ⟨(pe_notT (hx O h).1).imp fun _ _ _ q => not_imp (fa := ev C (wrOf G) x) q, fun t => (pt_not ((hx O h).2 t)).imp fun _ _ _ q => notT_imp (fa := ev C (wrOf G) x) q⟩
theorem arm_ife {c x y : E} (hc : SE G C k c) (hx : SE G C k x) (hy : SE G C k y) : SE G C k (.ife c x y) := by
  intro T B X ast O h
  cases ast <;> first | (cases h; done) | skip
  rename_i c' a b p
  obtain ⟨h, h4⟩ := and2 h
  obtain ⟨h, h3⟩ := and2 h
  obtain ⟨h1, h2⟩ := and2 h
  refine ⟨(pe_ifExp ((hc O h1).2 h2) (hx O h3).1 (hy O h4).1).imp fun _ _ _ q => ife_imp (K := X.K) (fc := ev C (wrOf G) c) (fa := ev C (wrOf G) x) (fb := ev C (wrOf G) y) q, fun t => ?_⟩
  obtain ⟨t, t3⟩ := and2 t
  obtain ⟨t1, t2⟩ := and2 t
  exact (pt_ife ((hc O h1).2 h2) ((hx O h3).2 t2) ((hy O h4).2 t3)).imp fun _ _ _ q => ifeT_imp (fc := ev C (wrOf G) c) (fa := ev C (wrOf G) x) (fb := ev C (wrOf G) y) q
theorem arm_cmp {o : CmpOp} {x y : E} (hx : SE G C k x) (hy : SE G C k y) : SE G C k (.cmp o x y) := by
  intro T B X ast O h
  cases ast <;> first | (cases h; done) | skip
  rename_i a os bs p
  cases os with
  | nil => cases h
  | cons o' os =>
    cases os with
    | cons _ _ => cases bs with
      | nil => cases h
      | cons b bs => cases bs <;> cases h
    | nil =>
      cases bs with
      | nil => cases h
      | cons b bs =>
        cases bs with
        | cons _ _ => cases h
        | nil =>
          obtain ⟨h, h5⟩ := and2 h
          obtain ⟨h, h4⟩ := and2 h
          obtain ⟨h, h3⟩ := and2 h
          obtain ⟨h1, h2⟩ := and2 h
          have e := dec h1
          subst e
          have hb := behind_no (op := o) (nt h3)
          refine ⟨(pe_cmpR (opC_cmp h2 O.sysm (Room.u65 O.room)) (hx O h4).1 (hy O h5).1 hb).imp fun _ _ _ q => two_imp (fa := ev C (wrOf G) x) (fb := ev C (wrOf G) y) q, fun _ => ?_⟩
          refine (pt_cmpR (opC_cmp h2 O.sysm (Room.u65 O.room)) (hx O h4).1 (hy O h5).1 hb).imp fun σ H Q q => ?_
          refine two_imp (fa := ev C (wrOf G) x) (fb := ev C (wrOf G) y) (op := cmpO o) (bl_imp (fun g o1 g' e => ?_) q)
          obtain ⟨_, _, _, e⟩ := bind_ok e
          obtain ⟨_, _, _, e⟩ := bind_ok e
          exact finBin_bl e
theorem arm_cmp2 {o o' : CmpOp} {x y z : E} (hx : SE G C k x) (hy : SE G C k y) (hz : SE G C k z) : SE G C k (.cmp2 o o' x y z) := by
  intro T B X ast O h
  cases ast <;> first | (cases h; done) | skip
  rename_i a os bs p
  rcases os with _ | ⟨o1, _ | ⟨o2, _ | ⟨o3, os⟩⟩⟩ <;> rcases bs with _ | ⟨b, _ | ⟨c, _ | ⟨d, bs⟩⟩⟩ <;> first | (cases h; done) | skip
  obtain ⟨h, h9⟩ := and2 h
  obtain ⟨h, h8⟩ := and2 h
  obtain ⟨h, h7⟩ := and2 h
  obtain ⟨h, h6⟩ := and2 h
  obtain ⟨h, h5⟩ := and2 h
  obtain ⟨h, h4⟩ := and2 h
  obtain ⟨h, h3⟩ := and2 h
  obtain ⟨h1, h2⟩ := and2 h
  have e := dec h1
  subst e
  have e := dec h2
  subst e
  have hb : lastMarks [o, o'] [b, c] = false := behind_no (op := o') (nt h6)
  refine ⟨(pe_chain (opC_cmp h3 O.sysm (Room.u65 O.room)) (opC_cmp h4 O.sysm (Room.u65 O.room)) (hx O h7).1 (hy O h8).1 (hz O h9).1 hb).imp fun _ _ _ q => chain_imp (fa := ev C (wrOf G) x) (fb := ev C (wrOf G) y) (fc := ev C (wrOf G) z) q, fun _ => ?_⟩
  refine (pt_chain (opC_cmp h3 O.sysm (Room.u65 O.room)) (opC_cmp h4 O.sysm (Room.u65 O.room)) (hx O h7).1 (hy O h8).1 (hz O h9).1 hb).imp fun σ H Q q => ?_
  refine chain_imp (fa := ev C (wrOf G) x) (fb := ev C (wrOf G) y) (fc := ev C (wrOf G) z) (bl_imp (fun g o1 g' e => ?_) q)
  obtain ⟨_, _, _, e⟩ := bind_ok e
  obtain ⟨_, _, _, e⟩ := bind_ok e
  rcases br_ok e with ⟨_, e⟩ | ⟨_, e⟩
  · obtain ⟨_, _, _, e⟩ := bind_ok e
    exact finBin_bl e
  · cases e
    exact ⟨_, rfl⟩
theorem sing_pe {s : Sing} {c : Const} {j : Nat} {p : Pos} (h : singOk s c = true) : PE X (.Constant c j p) (tC (singV s)) := by
  cases s <;> cases c <;> first | (cases h; done) | skip
  · exact pe_non
  · rename_i b; cases b <;> first | (cases h; done) | exact pe_bl
  · rename_i b; cases b <;> first | (cases h; done) | exact pe_bl
theorem arm_is {x : E} {s : Sing} {n : Bool} (hx : SE G C k x) : SE G C k (.is x s n) := by
  intro T B X ast O h
  cases ast <;> first | (cases h; done) | skip
  rename_i a os bs p
  rcases os with _ | ⟨o1, _ | ⟨o2, os⟩⟩ <;> rcases bs with _ | ⟨b, _ | ⟨c, bs⟩⟩ <;> first | (cases h; done) | (cases b <;> cases h; done) | skip
  cases b <;> first | (cases h; done) | skip
  rename_i c j q
  obtain ⟨h, h3⟩ := and2 h
  obtain ⟨h1, h2⟩ := and2 h
  have e := dec h1
  subst e
  have ob : ∀ g o1 g', ev C (wrOf G) (.is x s n) g = .ok o1 g' → ∃ b, o1 = .val (.bool b) false := fun g o1 g' e => by
    obtain ⟨_, _, _, e⟩ := bind_ok e
    obtain ⟨d, r, e1, e2, e3⟩ := finUn_ok (fun z => by rw [z] at e; cases e)
    rw [e3] at e
    cases e
    cases e2
    exact ⟨_, rfl⟩
  cases n with
  | false =>
    exact ⟨(pe_cmpR (opI_is s) (hx O h3).1 (sing_pe h2) rfl).imp fun _ _ _ q => is_imp (f := ev C (wrOf G) x) q, fun _ => (pt_cmpR (opI_is s) (hx O h3).1 (sing_pe h2) rfl).imp fun σ H Q q => is_imp (f := ev C (wrOf G) x) (bl_imp ob q)⟩
  | true =>
    exact ⟨(pe_cmpR (opI_isnot s) (hx O h3).1 (sing_pe h2) rfl).imp fun _ _ _ q => is_imp (f := ev C (wrOf G) x) q, fun _ => (pt_cmpR (opI_isnot s) (hx O h3).1 (sing_pe h2) rfl).imp fun σ H Q q => is_imp (f := ev C (wrOf G) x) (bl_imp ob q)⟩
end
end TL
/-! TL20: the forms of expressions, with parts in a row. -/
namespace TL
open PySem PySem.Spec PyProof.Rows L2
variable [Plc]

def Es.len : Es → Nat
  | .nil => 0
  | .cons _ r => r.len + 1
theorem evs_len {C : Calls} {wr : Nat → Bool} : ∀ {es : Es} {g g' : Gv} {os : List Op}, evs C wr es g = .ok os g' → os.length = es.len
  | .nil, g, g', os, h => by
    have h : Rs.ok [] g = .ok os g' := h
    cases h
    rfl
  | .cons x r, g, g', os, h => by
    obtain ⟨a, g1, _, h⟩ := bind_ok (r := ev C wr x g) h
    obtain ⟨as, g2, e, h⟩ := bind_ok h
    cases h
    rw [List.length_cons, evs_len e]
    rfl
section
variable {G : List Fn} {C : Calls} {k : Nat} {T : Th} {B : BC} {X : Cx}
theorem mEs_len : ∀ {es : Es} {as : List Expr}, mEs G es B as = true → as.length = es.len
  | .nil, [], _ => rfl
  | .nil, _ :: _, h => nomatch h
  | .cons _ _, [], h => nomatch h
  | .cons x r, a :: as, h => by rw [List.length_cons, mEs_len (and2 h).2]; rfl
theorem tIs_len {es : Es} {σ : L2.St} {H : Hp} {Q : List V → Hp → Prop} (h : tIs T (evs C (wrOf G) es) σ H Q) : tIs T (evs C (wrOf G) es) σ H fun vs H1 => vs.length = es.len ∧ Q vs H1 := by
  obtain ⟨W, g, O, h⟩ := h
  exact ⟨W, g, O, h.mono fun a g1 W1 H1 e s1 G1 h1 vs p => ⟨by rw [p.len, evs_len e], h1 vs p⟩⟩
theorem pa_of (O : XOk T G C k B X) : ∀ {es : Es} {as : List Expr}, AllSE G C k es → mEs G es B as = true → noStars as = true → PA X as (tIs T (evs C (wrOf G) es))
  | .nil, [], _, _, _ => pa_nil.imp fun _ _ _ q => args_nil q
  | .nil, _ :: _, _, h, _ => nomatch h
  | .cons _ _, [], _, h, _ => nomatch h
  | .cons x r, a :: as, hs, h, n => (pa_cons' (hs.1 O (and2 h).1).1 (noSt n).1 (pa_of O hs.2 (and2 h).2 (noSt n).2)).imp fun _ _ _ q => args_cons (fa := ev C (wrOf G) x) (fr := evs C (wrOf G) r) q
theorem pk_of (O : XOk T G C k B X) : ∀ {es : Es} {ks : List Keyword}, AllSE G C k es → mEs G es B (ks.map (·.value)) = true → PK X ks (tIs T (evs C (wrOf G) es))
  | .nil, [], _, _ => pk_nil.imp fun _ _ _ q => args_nil q
  | .nil, _ :: _, _, h => nomatch h
  | .cons _ _, [], _, h => nomatch h
  | .cons x r, ⟨n, a, p⟩ :: as, hs, h => (pk_cons (hs.1 O (and2 h).1).1 (pk_of O hs.2 (and2 h).2)).imp fun _ _ _ q => args_cons (fa := ev C (wrOf G) x) (fr := evs C (wrOf G) r) q
theorem pe_ands (O : XOk T G C k B X) {pos : Pos} : ∀ {es : Es} {as : List Expr}, AllSE G C k es → mEs G es B as = true → as.isEmpty = false → PE X (.BoolOp .And as pos) (tI T (evAnd C (wrOf G) es))
  | _, [], _, _, n => nomatch n
  | .nil, _ :: _, _, h, _ => nomatch h
  | .cons x .nil, [a], hs, h, _ => pe_one (hs.1 O (and2 h).1).1
  | .cons x .nil, _ :: _ :: _, hs, h, _ => nomatch (and2 h).2
  | .cons x (.cons y r), [a], hs, h, _ => nomatch (and2 h).2
  | .cons x (.cons y r), a :: b :: as, hs, h, _ => (pe_andT (hs.1 O (and2 h).1).1 (pe_ands O hs.2 (and2 h).2 rfl)).imp fun _ _ _ q => and_imp (fa := ev C (wrOf G) x) (fr := evAnd C (wrOf G) (.cons y r)) q
theorem pe_ors (O : XOk T G C k B X) {pos : Pos} : ∀ {es : Es} {as : List Expr}, AllSE G C k es → mEs G es B as = true → as.isEmpty = false → PE X (.BoolOp .Or as pos) (tI T (evOr C (wrOf G) es))
  | _, [], _, _, n => nomatch n
  | .nil, _ :: _, _, h, _ => nomatch h
  | .cons x .nil, [a], hs, h, _ => pe_one (hs.1 O (and2 h).1).1
  | .cons x .nil, _ :: _ :: _, hs, h, _ => nomatch (and2 h).2
  | .cons x (.cons y r), [a], hs, h, _ => nomatch (and2 h).2
  | .cons x (.cons y r), a :: b :: as, hs, h, _ => (pe_orT (hs.1 O (and2 h).1).1 (pe_ors O hs.2 (and2 h).2 rfl)).imp fun _ _ _ q => or_imp (fa := ev C (wrOf G) x) (fr := evOr C (wrOf G) (.cons y r)) q
theorem pw_ands (O : XOk T G C k B X) {pos : Pos} : ∀ {es : Es} {as : List Expr}, AllSE G C k es → mEs G es B as = true → as.isEmpty = false → tOks es as = true → PW X (.BoolOp .And as pos) (tT T (evAnd C (wrOf G) es))
  | _, [], _, _, n, _ => nomatch n
  | .nil, _ :: _, _, h, _, _ => nomatch h
  | .cons x .nil, [a], hs, h, _, t => pw_and1 ((hs.1 O (and2 h).1).2 (and2 t).1)
  | .cons x .nil, _ :: _ :: _, hs, h, _, _ => nomatch (and2 h).2
  | .cons x (.cons y r), [a], hs, h, _, _ => nomatch (and2 h).2
  | .cons x (.cons y r), a :: b :: as, hs, h, _, t => (pw_and ((hs.1 O (and2 h).1).2 (and2 t).1) (pw_ands O hs.2 (and2 h).2 rfl (and2 t).2)).imp fun _ _ _ q => andT_imp (fa := ev C (wrOf G) x) (fr := evAnd C (wrOf G) (.cons y r)) q
theorem pw_ors (O : XOk T G C k B X) {pos : Pos} : ∀ {es : Es} {as : List Expr}, AllSE G C k es → mEs G es B as = true → as.isEmpty = false → tOks es as = true → PW X (.BoolOp .Or as pos) (tT T (evOr C (wrOf G) es))
  | _, [], _, _, n, _ => nomatch n
  | .nil, _ :: _, _, h, _, _ => nomatch h
  | .cons x .nil, [a], hs, h, _, t => pw_or1 ((hs.1 O (and2 h).1).2 (and2 t).1)
  | .cons x .nil, _ :: _ :: _, hs, h, _, _ => nomatch (and2 h).2
  | .cons x (.cons y r), [a], hs, h, _, _ => nomatch (and2 h).2
  | .cons x (.cons y r), a :: b :: as, hs, h, _, t => (pw_or ((hs.1 O (and2 h).1).2 (and2 t).1) (pw_ors O hs.2 (and2 h).2 rfl (and2 t).2)).imp fun _ _ _ q => orT_imp (fa := ev C (wrOf G) x) (fr := evOr C (wrOf G) (.cons y r)) q
theorem pt_pw {e : Expr} {t : TT} (h : PW X e t) : PT X e t := ⟨fun pins s σ H Q I q => h.run _ pins s σ H Q I q⟩

theorem arm_and {es : Es} (hs : AllSE G C k es) : SE G C k (.and es) := by
  intro T B X ast O h
  cases ast <;> first | (cases h; done) | skip
  rename_i o as p
  cases o <;> first | (cases h; done) | skip
  obtain ⟨h1, h2⟩ := and2 h
  exact ⟨pe_ands O hs h2 (nt h1), fun t => pt_pw (pw_ands O hs h2 (nt h1) t)⟩
theorem arm_or {es : Es} (hs : AllSE G C k es) : SE G C k (.or es) := by
  intro T B X ast O h
  cases ast <;> first | (cases h; done) | skip
  rename_i o as p
  cases o <;> first | (cases h; done) | skip
  obtain ⟨h1, h2⟩ := and2 h
  exact ⟨pe_ors O hs h2 (nt h1), fun t => pt_pw (pw_ors O hs h2 (nt h1) t)⟩
theorem arm_tup {es : Es} (hs : AllSE G C k es) : SE G C k (.tup es) := by
  intro T B X ast O h
  cases ast <;> first | (cases h; done) | skip
  rename_i as x1 p
  obtain ⟨h1, h2⟩ := and2 h
  have p : PE X (.Tuple as x1 p) (tI T (ev C (wrOf G) (.tup es))) := (pe_tup (pa_of O hs h2 h1)).imp fun _ _ _ q => tup_imp (f := evs C (wrOf G) es) q
  exact ⟨p, fun t => pt_of p t⟩
theorem arm_lst {es : Es} (hs : AllSE G C k es) : SE G C k (.lst es) := by
  intro T B X ast O h
  cases ast <;> first | (cases h; done) | skip
  rename_i as p
  obtain ⟨h1, h2⟩ := and2 h
  have p : PE X (.List as p) (tI T (ev C (wrOf G) (.lst es))) := (pe_lst (pa_of O hs h2 h1)).imp fun _ _ _ q => lst_imp (f := evs C (wrOf G) es) q
  exact ⟨p, fun t => pt_of p t⟩
theorem arm_dct : SE G C k .dct := by
  intro T B X ast O h
  cases ast <;> first | (cases h; done) | skip
  rename_i ks vs p
  cases ks <;> cases vs <;> first | (cases h; done) | skip
  have p : PE X (.Dict [] [] p) (tI T (ev C (wrOf G) .dct)) := pe_dnewK.imp fun _ _ _ q => dct_imp q
  exact ⟨p, fun t => pt_of p t⟩
theorem arm_idx {x y : E} (hx : SE G C k x) (hy : SE G C k y) : SE G C k (.idx x y) := by
  intro T B X ast O h
  cases ast <;> first | (cases h; done) | skip
  rename_i a b p
  obtain ⟨h, h3⟩ := and2 h
  obtain ⟨h1, h2⟩ := and2 h
  have p : PE X (.Subscript a b p) (tI T (ev C (wrOf G) (.idx x y))) := (pe_ix (ixD (Room.u65 O.room)) (hx O h2).1 (hy O h3).1 (plainIx (nt h1))).imp fun _ _ _ q => two_imp (fa := ev C (wrOf G) x) (fb := ev C (wrOf G) y) (op := idxO) q
  exact ⟨p, fun t => pt_of p t⟩
theorem arm_sl {x : E} {lo hi : Eo} (hx : SE G C k x) (hl : SO G C k lo) (hh : SO G C k hi) : SE G C k (.sl x lo hi) := by
  intro T B X ast O h
  cases ast <;> first | (cases h; done) | skip
  rename_i a b p
  cases b <;> first | (cases h; done) | skip
  rename_i l u st q
  cases st <;> first | (cases h; done) | skip
  obtain ⟨h, h3⟩ := and2 h
  obtain ⟨h1, h2⟩ := and2 h
  have p : PE X (.Subscript a (.Slice l u none q) p) (tI T (ev C (wrOf G) (.sl x lo hi))) := (pe_slice slDr (hx O h1).1 (hl O h2) (hh O h3)).imp fun _ _ _ q => sl_imp (fa := ev C (wrOf G) x) (fl := evo C (wrOf G) lo) (fh := evo C (wrOf G) hi) q
  exact ⟨p, fun t => pt_of p t⟩
theorem arm_no : SO G C k .no := by
  intro T B X o O h
  cases o <;> first | (cases h; done) | skip
  exact po_none.imp fun _ _ _ q => part_no q
theorem arm_so {x : E} (hx : SE G C k x) : SO G C k (.so x) := by
  intro T B X o O h
  cases o <;> first | (cases h; done) | skip
  exact (po_some (hx O h).1).imp fun _ _ _ q => part_so (f := ev C (wrOf G) x) q
theorem arm_g {i : Nat} {d : D} : SE G C k (.g i d) := by
  intro T B X ast O h
  cases ast <;> first | (cases h; done) | skip
  rename_i x p
  obtain ⟨h1, h2⟩ := and2 h
  obtain ⟨F, e1, e2, e3⟩ := cName_at h1
  subst e2
  obtain ⟨u, v, m, r, q⟩ := O.cons i F d e1 e3
  obtain ⟨gl, db, _⟩ := O.gl h2
  have pr : PE X (.Name F.name p) (tI T (ev C (wrOf G) (.g i d))) := (pe_glob gl m r db).imp fun σ H Q z => const_imp q z
  exact ⟨pr, fun t => pt_of pr t⟩
theorem arm_join {o x : E} (ho : SE G C k o) (hx : SE G C k x) : SE G C k (.join o x) := by
  intro T B X ast O h
  cases ast <;> first | (cases h; done) | skip
  rename_i fn as kws p
  cases fn <;> first | (cases h; done) | skip
  rename_i a y q
  rcases as with _ | ⟨e, _ | ⟨e2, as⟩⟩ <;> cases kws <;> first | (cases h; done) | skip
  obtain ⟨h, h6⟩ := and2 h
  obtain ⟨h, h5⟩ := and2 h
  obtain ⟨h, h4⟩ := and2 h
  obtain ⟨h, h3⟩ := and2 h
  obtain ⟨h1, h2⟩ := and2 h
  have e := dec h1
  subst e
  have pr : PE X (.Call (.Attribute a ("join" : Str) q) [e] [] p) (tI T (ev C (wrOf G) (.join o x))) := (pe_join (ho O h5).1 (hx O h6).1 (by rw [star_cons (nt h4)]; rfl) (base_no h3) h2).imp fun _ _ _ q => join_imp (fo := ev C (wrOf G) o) (fx := ev C (wrOf G) x) q
  exact ⟨pr, fun t => pt_of pr t⟩
theorem eqV_str (a b : Str) : eqV (.str a) (.str b) = decide (a = b) := by
  show (a == b) = _
  by_cases e : a = b
  · subst e; simp
  · rw [decide_eq_false e]; exact beq_false_of_ne e
theorem findS_at (y : Str) : ∀ (l : List Str) (n j : Nat), findS y n l = some j → n ≤ j ∧ l[j - n]? = some y ∧ ∀ m, m < j - n → ∀ z, l[m]? = some z → z ≠ y
  | [], n, j, h => nomatch h
  | x :: r, n, j, h => by
    unfold findS at h
    by_cases e : x = y
    · rw [if_pos e] at h
      cases h
      refine ⟨Nat.le_refl _, by rw [Nat.sub_self]; exact congrArg some e, fun m hm => by omega⟩
    · rw [if_neg e] at h
      obtain ⟨h1, h2, h3⟩ := findS_at y r (n + 1) j h
      have e1 : j - n = (j - (n + 1)) + 1 := by omega
      refine ⟨by omega, by rw [e1]; exact h2, fun m hm z hz => ?_⟩
      cases m with
      | zero =>
        have hz : some x = some z := hz
        cases hz
        exact e
      | succ m => exact h3 m (by omega) z hz
theorem arm_fnd {o x : E} (ho : SE G C k o) (hx : SE G C k x) : SE G C k (.fnd o x) := by
  intro T B X ast O h
  cases ast <;> first | (cases h; done) | skip
  rename_i fn as kws p
  cases fn <;> first | (cases h; done) | skip
  rename_i a y q
  rcases as with _ | ⟨e, _ | ⟨e2, as⟩⟩ <;> cases kws <;> first | (cases h; done) | skip
  obtain ⟨h, h6⟩ := and2 h
  obtain ⟨h, h5⟩ := and2 h
  obtain ⟨h, h4⟩ := and2 h
  obtain ⟨h, h3⟩ := and2 h
  obtain ⟨h1, h2⟩ := and2 h
  have e := dec h1
  subst e
  have pr : PE X (.Call (.Attribute a ("find" : Str) q) [e] [] p) (tI T (ev C (wrOf G) (.fnd o x))) :=
    (pe_m1 PySem.F.slot_str_find PySem.F.type_str_find mt_find (ho O h5).1 (hx O h6).1 (by rw [star_cons (nt h4)]; rfl) (base_no h3) h2).imp fun _ _ _ q => find_imp (fo := ev C (wrOf G) o) (fx := ev C (wrOf G) x) q
  exact ⟨pr, fun t => pt_of pr t⟩
theorem arm_m1 {m : M1} {o x : E} (ho : SE G C k o) (hx : SE G C k x) : SE G C k (.m1 m o x) := by
  intro T B X ast O h
  cases ast <;> first | (cases h; done) | skip
  rename_i fn as kws p
  cases fn <;> first | (cases h; done) | skip
  rename_i a y q
  rcases as with _ | ⟨e, _ | ⟨e2, as⟩⟩ <;> cases kws <;> first | (cases h; done) | skip
  obtain ⟨h, h6⟩ := and2 h
  obtain ⟨h, h5⟩ := and2 h
  obtain ⟨h, h4⟩ := and2 h
  obtain ⟨h, h3⟩ := and2 h
  obtain ⟨h1, h2⟩ := and2 h
  have e := dec h1
  subst e
  have pa := pa_cons' (hx O h6).1 (nt h4) pa_nil
  have pr : PE X (.Call (.Attribute a (Str.ofString m.nm) q) [e] [] p) (tI T (ev C (wrOf G) (.m1 m o x))) := by
    cases m with
    | count =>
      refine (pe_bm F.plainAttrs_list PySem.F.slot_list_count PySem.F.type_list_count mt_lcount (ho O h5).1 pa (base_no h3) (by rw [star_cons (nt h4)]; rfl) h2 (star_cons (nt h4) _ X.env) rfl).imp fun _ _ _ q => m1_imp (m := .count) (fo := ev C (wrOf G) o) (fx := ev C (wrOf G) x) (fun {W H Q x y d e p own} bx by' f nw => ?_) q
      cases d <;> cases e <;> first | (exfalso; cases f; done) | skip
      rename_i xs kk
      have f' : ((asInts xs).map fun ns => (PyData.int (ns.count kk : Nat), false)) = some (p, own) := f
      cases h1 : asInts xs with
      | none => rw [h1] at f'; cases f'
      | some ns =>
        rw [h1] at f'
        cases f'
        obtain ⟨a, vs, rfl, ra, la, qa⟩ := bx.lst
        have ex := qa.ints h1
        subst ex
        exact ⟨a, ns, kk, rfl, by rw [by'.int], .inl ra, nw.int⟩
    | index =>
      refine (pe_bm F.plainAttrs_list PySem.F.slot_list_index PySem.F.type_list_index mt_index (ho O h5).1 pa (base_no h3) (by rw [star_cons (nt h4)]; rfl) h2 (star_cons (nt h4) _ X.env) rfl).imp fun _ _ _ q => m1_imp (m := .index) (fo := ev C (wrOf G) o) (fx := ev C (wrOf G) x) (fun {W H Q x y d e p own} bx by' f nw => ?_) q
      cases d <;> cases e <;> first | (exfalso; cases f; done) | skip
      rename_i xs kk
      have f' : ((allStrs xs).bind fun zs => (findS kk 0 zs).map fun j => (PyData.int (j : Nat), false)) = some (p, own) := f
      cases h1 : allStrs xs with
      | none => rw [h1] at f'; cases f'
      | some zs =>
        rw [h1] at f'
        have f' : ((findS kk 0 zs).map fun j => (PyData.int (j : Nat), false)) = some (p, own) := f'
        cases h2 : findS kk 0 zs with
        | none => rw [h2] at f'; cases f'
        | some j =>
          rw [h2] at f'
          cases f'
          obtain ⟨a, vs, rfl, ra, la, qa⟩ := bx.lst
          have ex := allStrs_map h1 qa
          subst ex
          obtain ⟨j0, j1, j2⟩ := findS_at kk zs 0 j h2
          rw [Nat.sub_zero] at j1 j2
          refine ⟨a, zs.map V.str, .str kk, j, .str kk, rfl, by rw [by'.str], .inl ra, rfl, ?_, ?_, ?_, ?_, nw.int⟩
          · rw [List.all_map]
            exact List.all_eq_true.mpr fun _ _ => rfl
          · rw [List.getElem?_map, j1]; rfl
          · rw [eqV_str]; exact decide_eq_true rfl
          · intro m z' hm hz
            rw [List.getElem?_map] at hz
            cases hq : zs[m]? with
            | none => rw [hq] at hz; cases hz
            | some w =>
              rw [hq] at hz
              cases hz
              rw [eqV_str]
              exact decide_eq_false (j2 m hm w hq)
  exact ⟨pr, fun t => pt_of pr t⟩
theorem arm_bor {is : List Nat} {x : E} (hx : SE G C k x) : SE G C k (.bor is x) := by
  intro T B X ast O h
  have h' : mE G x B ast = true := by
    cases ast <;> first | exact h | cases h
  have pr : PE X ast (tI T (ev C (wrOf G) (.bor is x))) := (hx O h').1.imp fun _ _ _ q => bor_imp (f := ev C (wrOf G) x) q
  exact ⟨pr, fun t => pt_of pr (by cases ast <;> first | exact t | cases h)⟩
theorem fn_at {f : Nat} {x : Str} (h : fnName G f x = true) : ∃ F, G[f]? = some F ∧ F.name = x ∧ F.kc = none := by
  unfold fnName at h
  split at h
  · rename_i F e
    obtain ⟨h1, h2⟩ := and2 h
    exact ⟨F, e, dec h1, Option.isNone_iff_eq_none.mp h2⟩
  · cases h
theorem arm_call {f : Nat} {es : Es} (hs : AllSE G C k es) : SE G C k (.call f es) := by
  intro T B X ast O h
  cases ast <;> first | (cases h; done) | skip
  rename_i fn as kws p
  cases fn <;> first | (cases h; done) | skip
  rename_i x q
  cases kws <;> first | (cases h; done) | skip
  obtain ⟨h, h4⟩ := and2 h
  obtain ⟨h, h3⟩ := and2 h
  obtain ⟨h1, h2⟩ := and2 h
  obtain ⟨F, e1, e2, e0⟩ := fn_at h1
  subst e2
  obtain ⟨g, fd, m1, m2, m3, m4, _⟩ := O.fns f F e1 e0
  obtain ⟨gl, db, _⟩ := O.gl h2
  have pa := pa_of O hs h4 h3
  have pr : PE X (.Call (.Name F.name q) as [] p) (tI T (ev C (wrOf G) (.call f es))) := by
    cases as with
    | cons a as => exact (pe_callG m4 O.gd O.room gl m1 m2 m3 O.takes pa db (star_cons (noSt h3).1 as X.env) (star_plain (noSt h3).2 p X.env)).imp fun _ _ _ q => call_imp (f := evs C (wrOf G) es) q
    | nil =>
      refine (pe_callG0 m4 O.gd O.room gl m1 m2 m3 O.takes db).imp fun σ H Q q => ?_
      have q : tCallG T (spF T.xr C f) (tIs T (evs C (wrOf G) es)) σ H Q := call_imp (f := evs C (wrOf G) es) q
      cases es with
      | nil => exact args_nil q
      | cons _ _ => cases h4
  exact ⟨pr, fun t => pt_of pr t⟩
theorem arm_callk {f : Nat} {es ks : Es} (hs : AllSE G C k es) (hk : AllSE G C k ks) : SE G C k (.callk f es ks) := by
  intro T B X ast O h
  cases ast <;> first | (cases h; done) | skip
  rename_i fn as kws p
  cases fn <;> first | (cases h; done) | skip
  rename_i x q
  obtain ⟨h, h6⟩ := and2 h
  obtain ⟨h, h5⟩ := and2 h
  obtain ⟨h, h4⟩ := and2 h
  obtain ⟨h, h3⟩ := and2 h
  obtain ⟨h1, h2⟩ := and2 h
  obtain ⟨F, e1, e2, e0⟩ := fn_at h1
  subst e2
  unfold kwFit at h3
  rw [e1] at h3
  obtain ⟨k1, k2⟩ := and2 h3
  obtain ⟨g, fd, m1, m2, m3, m4, m5, _⟩ := O.fns f F e1 e0
  obtain ⟨gl, db, _⟩ := O.gl h2
  have pa := pa_of O hs h5 h4
  have pk := pk_of O hk h6
  have mm := m5 as.length (List.contains_iff_mem.mp k1)
  have pr : PE X (.Call (.Name F.name q) as kws p) (tI T (ev C (wrOf G) (.callk f es ks))) := by
    have red : ∀ σ H Q, tI T (ev C (wrOf G) (.callk f es ks)) σ H Q → tCallGK T (spF T.xr C f) (tIs T (evs C (wrOf G) es)) (tIs T (evs C (wrOf G) ks)) σ H Q := fun σ H Q q =>
      args_app (fa := evs C (wrOf G) es) (fr := evs C (wrOf G) ks) (call_imp (f := fun g => (evs C (wrOf G) es g).bind fun as g => (evs C (wrOf G) ks g).bind fun bs g => .ok (as ++ bs) g) q)
    cases as with
    | cons a as =>
      refine (pe_callGK m4 O.gd O.room gl m1 m2 mm rfl (fun σ H Q z => ?_) O.takes pa pk (dec k2) db (star_cons (noSt h4).1 as X.env) (star_plain (noSt h4).2 p X.env)).imp red
      rw [mEs_len h5]
      exact tIs_len z
    | nil =>
      refine (pe_callGK0 m4 O.gd O.room gl m1 m2 mm O.takes pk (dec k2) db).imp fun σ H Q q => ?_
      have q := red σ H Q q
      cases es with
      | nil => exact args_nil q
      | cons _ _ => cases h5
  exact ⟨pr, fun t => pt_of pr t⟩
theorem arm_callp {f : Nat} {es ks : Es} {kn : List Str} {pm : List Nat} (hs : AllSE G C k es) (hk : AllSE G C k ks) : SE G C k (.callp f es ks kn pm) := by
  intro T B X ast O h
  cases ast <;> first | (cases h; done) | skip
  rename_i fn as kws p
  cases fn <;> first | (cases h; done) | skip
  rename_i x q
  obtain ⟨h, h6⟩ := and2 h
  obtain ⟨h, h5⟩ := and2 h
  obtain ⟨h, h4⟩ := and2 h
  obtain ⟨h, h3⟩ := and2 h
  obtain ⟨h1, h2⟩ := and2 h
  obtain ⟨F, e1, e2, e0⟩ := fn_at h1
  subst e2
  unfold kpFit at h3
  rw [e1] at h3
  obtain ⟨h3, k4⟩ := and2 h3
  obtain ⟨h3, k3⟩ := and2 h3
  obtain ⟨k1, k2⟩ := and2 h3
  obtain ⟨g, fd, m1, m2, m3, m4, _, m5⟩ := O.fns f F e1 e0
  obtain ⟨gl, db, _⟩ := O.gl h2
  have pa := pa_of O hs h5 h4
  have pk := pk_of O hk h6
  have mm := m5 _ (List.contains_iff_mem.mp k1)
  have kl : ks.len = kn.length := by
    have := congrArg List.length (dec k2)
    rw [List.length_map, List.length_map] at this
    rw [← this, ← mEs_len h6, List.length_map]
  have pr : PE X (.Call (.Name F.name q) as kws p) (tI T (ev C (wrOf G) (.callp f es ks kn pm))) := by
    have red : ∀ σ H Q, tI T (ev C (wrOf G) (.callp f es ks kn pm)) σ H Q → tCallGP T (spF T.xr C f) pm (tIs T (evs C (wrOf G) es)) (tIs T (evs C (wrOf G) ks)) σ H Q := fun σ H Q q =>
      args_app (fa := evs C (wrOf G) es) (fr := evs C (wrOf G) ks) (perm_imp (f := fun g => (evs C (wrOf G) es g).bind fun as g => (evs C (wrOf G) ks g).bind fun bs g => .ok (as ++ bs) g) (dec k3) (call_imp (f := fun g => ((evs C (wrOf G) es g).bind fun as g => (evs C (wrOf G) ks g).bind fun bs g => .ok (as ++ bs) g).bind fun os g => ofO (permO pm os) g) q))
    have lk : ∀ σ H Q, tIs T (evs C (wrOf G) ks) σ H Q → tIs T (evs C (wrOf G) ks) σ H fun vs H1 => vs.length = kn.length ∧ Q vs H1 := fun σ H Q z => by
      rw [← kl]
      exact tIs_len z
    cases as with
    | cons a as =>
      refine (pe_callGP m4 O.gd O.room gl m1 m2 mm rfl (fun σ H Q z => ?_) lk O.takes pa pk (dec k2) db (star_cons (noSt h4).1 as X.env) (star_plain (noSt h4).2 p X.env)).imp red
      rw [mEs_len h5]
      exact tIs_len z
    | nil =>
      refine (pe_callGP0 m4 O.gd O.room gl m1 m2 mm lk O.takes pk (dec k2) db).imp fun σ H Q q => ?_
      have q := red σ H Q q
      cases es with
      | nil => exact args_nil q
      | cons _ _ => cases h5
  exact ⟨pr, fun t => pt_of pr t⟩
end
end TL
/-! TLR: len(range(..)). -/
namespace TL
open PySem PySem.Spec PyProof.Rows L2
variable [Plc]
def tLenRg (te : L2.St → Hp → (Int → Int → Hp → Prop) → Prop) : TE := fun σ H Q => te σ H fun a b H1 => RgOk a b ∧ Q (.int ((b - a).toNat : Int)) H1
theorem pe_lenRg {X : Cx} {e : Expr} {te : L2.St → Hp → (Int → Int → Hp → Prop) → Prop} {p pos : Pos} (hg : Gl X "len") (hm : X.mg "len" = none) (he : PRg X e te) (na : starEach [e] X.env = (false, eval e X.env) :: starEach [] X.env := by rfl) : PE X (.Call (.Name "len" p) [e] [] pos) (tLenRg te) := by
  refine ⟨fun pins s σ H Q I h => ?_⟩
  refine Call_ (ld_blt I hg hm boot_len ?_)
  refine PyProof.Rows.callWith_builtin1 (PyProof.Rows.args_cons (thn (he pins s σ H _ I h) fun x s1 ⟨r, a, b, t, u, v, H1, ex, hr, I1, ok, q⟩ => PyProof.Rows.args_nil ?_) na) na rfl
  subst ex
  obtain ⟨b1, b2, b3, b4, b5⟩ := ok
  exact call_len_range (n := (b - a).toNat) hr (rangeSize_nat a b) (by omega) ⟨.int _, H1, I1.tok _, ⟨_, rfl⟩, q⟩
end TL
/-! TL21: built-ins, comprehensions, and every expression. -/
namespace TL
open PySem PySem.Spec PyProof.Rows L2
variable [Plc]

def BI.ty? : BI → Bool
  | .int => true
  | .list => true
  | .tuple => true
  | _ => false
theorem boot_len' : bootBuiltins "len" = some (.builtin "len") := by decide +kernel
theorem boot_abs' : bootBuiltins "abs" = some (.builtin "abs") := by decide +kernel
theorem bi_boot : ∀ f : BI, bootBuiltins (Str.ofString f.nm) = some f.val
  | .len => boot_len'
  | .int => boot_int
  | .max => boot_max
  | .min => boot_min
  | .sum => boot_sum
  | .repr => boot_repr
  | .all => boot_all
  | .any => boot_any
  | .list => boot_list
  | .tuple => boot_tuple
  | .abs => boot_abs'
  | .str => by decide +kernel
  | .sorted => by decide +kernel
  | .dict => by decide +kernel
theorem list_in : ("list" : Str) ∈ bltNames := by decide +kernel
theorem rng_in' : ("range" : Str) ∈ bltNames := by decide +kernel
theorem len_in' : ("len" : Str) ∈ bltNames := by decide +kernel
theorem rpA_rg {W : Addr → Prop} {H : Hp} (a : Int) : ∀ is : List Nat, RpA W H (is.map fun i => V.int (a + (i : Nat))) (is.map fun i => PyData.int (a + (i : Nat)))
  | [] => .nil
  | i :: is => .cons (.int _) (rpA_rg a is)
theorem rg_ok {a b : Int} (h : lrgOk a b = true) : RgOk a b := by
  obtain ⟨h, h3⟩ := and2 h
  obtain ⟨h1, h2⟩ := and2 h
  unfold rngOk at h1 h2
  simp only [Bool.and_eq_true, decide_eq_true_eq] at h1 h2
  have h3 : (b - a).toNat ≤ sizeLine := of_decide_eq_true h3
  have e16 : sizeLine = 2 ^ 24 := by decide
  exact ⟨h1.1, h1.2, h2.1, h2.2, by rw [← e16]; exact h3⟩
theorem rgLen {a b : Int} (h : RgOk a b) : (rgV a b).length ≤ sizeLine := by
  rw [rgV_length, sizeLine_eq]
  obtain ⟨_, _, _, _, h⟩ := h
  omega
theorem lrg1_imp {T : Th} {f : Gv → Rs Op} {σ : L2.St} {H : Hp} {Q : VK} (h : tI T (fun g => (f g).bind fun a g => finUn lrgD a g) σ H Q) : tLstRg (tRg1 (tI T f)) σ H Q := by
  obtain ⟨W, g, G, h⟩ := h
  refine ⟨W, g, G, (Pst.bind0 h).mono fun a g1 W1 H1 _ s1 G1 h1 v r => ?_⟩
  obtain ⟨d, r', e1, e2, e3⟩ := finUn_ok h1.nb
  rw [e3] at h1
  cases d <;> first | (exfalso; cases e2; done) | skip
  rename_i n
  have ev := (r.opd.rb G1 e1).int
  subst ev
  have e2 : (if lrgOk 0 n = true then some (PyData.list (rngL 0 n.toNat), true) else none) = some r' := e2
  by_cases c : lrgOk 0 n = true
  · rw [if_pos c] at e2
    cases e2
    have ok := rg_ok (a := 0) c
    refine ⟨n, rfl, ok, fun q hq => ?_⟩
    have nw := fin_new2 G G1 s1 h1
    refine New.lst nw hq (rgLen ok) ?_
    have e : rgV 0 n = (List.range n.toNat).map fun i => V.int (0 + (i : Nat)) := by
      unfold rgV
      rw [Int.sub_zero]
    rw [e]
    exact rpA_rg 0 _
  · rw [if_neg c] at e2; cases e2
theorem lenr_imp {T : Th} {f : Gv → Rs Op} {σ : L2.St} {H : Hp} {Q : VK} (h : tI T (fun g => (f g).bind fun a g => finUn lenrD a g) σ H Q) : tLenRg (tRg1 (tI T f)) σ H Q := by
  obtain ⟨W, g, G, h⟩ := h
  refine ⟨W, g, G, (Pst.bind0 h).mono fun a g1 W1 H1 _ s1 G1 h1 v r => ?_⟩
  obtain ⟨d, r', e1, e2, e3⟩ := finUn_ok h1.nb
  rw [e3] at h1
  cases d <;> first | (exfalso; cases e2; done) | skip
  rename_i n
  have ev := (r.opd.rb G1 e1).int
  subst ev
  have e2 : (if lrgOk 0 n = true then some (PyData.int (n.toNat : Nat), false) else none) = some r' := e2
  by_cases c : lrgOk 0 n = true
  · rw [if_pos c] at e2
    cases e2
    refine ⟨n, rfl, rg_ok (a := 0) c, ?_⟩
    have nw := fin_new2 G G1 s1 h1
    rw [Int.sub_zero]
    exact nw.int
  · rw [if_neg c] at e2; cases e2
theorem lrg2_imp {T : Th} {fa fb : Gv → Rs Op} {σ : L2.St} {H : Hp} {Q : VK} (h : tI T (fun g => (fa g).bind fun a g => (fb g).bind fun b g => finBin lrg2D a b g) σ H Q) : tLstRg (tRg2 (tI T fa) (tI T fb)) σ H Q := by
  obtain ⟨W, g, G, h⟩ := h
  refine ⟨W, g, G, (Pst.bind G.wok h).mono fun a g1 W1 H1 _ s1 G1 h1 v r1 => ⟨W1, g1, G1, (Pst.bind G1.wok h1).mono fun b g2 W2 H2 _ s2 G2 h2 u r2' => ?_⟩⟩
  obtain ⟨d, e, r, e1, e2, e3, e4⟩ := finBin_ok h2.nb
  rw [e4] at h2
  cases d <;> first | (exfalso; cases e3; done) | skip
  rename_i n
  cases e <;> first | (exfalso; cases e3; done) | skip
  rename_i m
  have ev1 := ((r1.later G1 s2).rb G2 e1).int
  subst ev1
  have ev2 := (r2'.opd.rb G2 e2).int
  subst ev2
  have e3 : (if lrgOk n m = true then some (PyData.list (rngL n (m - n).toNat), true) else none) = some r := e3
  by_cases c : lrgOk n m = true
  · rw [if_pos c] at e3
    cases e3
    have ok := rg_ok c
    refine ⟨n, m, rfl, rfl, ok, fun q hq => ?_⟩
    have nw := fin_new G2 (fun b z => s1.there b (s2.there b z)) h2
    exact New.lst nw hq (rgLen ok) (rpA_rg n _)
  · rw [if_neg c] at e3; cases e3
theorem isDk_at {a : Op} {g : Gv} (h : isDk a g = true) : ∃ xs, a.res g = some (.dict xs) ∧ okK xs = true := by
  unfold isDk at h
  split at h
  · rename_i xs e
    exact ⟨xs, e, h⟩
  · cases h
theorem get1_imp {T : Th} {fo fx : Gv → Rs Op} {σ : L2.St} {H : Hp} {Q : VK} (h : tI T (fun g => (fo g).bind fun a g => match isDk a g with | true => (fx g).bind fun b g => finBin get1D a b g | false => .bad) σ H Q) : tDGet1 (tI T fo) (tI T fx) σ H Q := by
  obtain ⟨W, g, G, h⟩ := h
  refine ⟨W, g, G, (Pst.bind G.wok h).mono fun a g1 W1 H1 _ s1 G1 h1 v r => ?_⟩
  cases ed : isDk a g1 with
  | false => simp only [ed] at h1; exact h1.elim
  | true =>
    simp only [ed] at h1
    obtain ⟨xs, e, okx⟩ := isDk_at ed
    obtain ⟨p, kvs, rfl, ra, la, qa⟩ := (r.opd.rb G1 e).dct okx
    refine ⟨p, rfl, .inl ⟨kvs, ra⟩, W1, g1, G1, (Pst.bind G1.wok h1).mono fun b g2 W2 H2 _ s2 G2 h2 u r2' => ?_⟩
    obtain ⟨d, e', r', e1, e2, e3, e4⟩ := finBin_ok h2.nb
    rw [e4] at h2
    have rb2 := (r.later G1 s2).rb G2 e1
    have by' := r2'.opd.rb G2 e2
    cases d <;> first | (exfalso; cases e3; done) | skip
    rename_i ys
    have e0 : (if okK ys = true then (keyOf e').map fun k => ((dgetD ys k).getD .none, false) else none) = some r' := e3
    by_cases oky : okK ys = true
    case neg => rw [if_neg oky] at e0; cases e0
    rw [if_pos oky] at e0
    have e3 : ((keyOf e').map fun k => ((dgetD ys k).getD .none, false)) = some r' := e0
    cases hk : keyOf e' with
    | none => rw [hk] at e3; cases e3
    | some k =>
      rw [hk] at e3
      have e3 : some ((dgetD ys k).getD .none, false) = some r' := e3
      cases e3
      obtain ⟨ey, _⟩ := keyOf_kV by' hk
      subst ey
      obtain ⟨p2, kvs2, ep, ra2, la2, qa2⟩ := rb2.dct oky
      cases ep
      have nw := fin_new G2 (fun b z => s1.there b (s2.there b z)) h2
      rcases rpK_get (k := k) qa2 with ⟨e5, e6⟩ | ⟨w, d', e5, e6, rw'⟩
      · rw [e6] at nw
        exact ⟨none, by rw [← e5]; exact dgk ra2, nw.old .non⟩
      · rw [e6] at nw
        exact ⟨some w, by rw [← e5]; exact dgk ra2, nw.old rw'⟩
theorem rp_scalar {W : Addr → Prop} {H : Hp} {v : V} {d : D} (s : scalarD d = true) (r : RB W H v d) : Rp W H v d := by
  cases d <;> first | (cases s; done) | skip
  · rw [r.non]; exact .non
  · rw [r.bl]; exact .bl _
  · rw [r.int]; exact .int _
  · rw [r.str]; exact .str _
theorem get2_imp {T : Th} {fo fx fy : Gv → Rs Op} {σ : L2.St} {H : Hp} {Q : VK} (h : tI T (fun g => (fo g).bind fun a g => match isDk a g with | true => (fx g).bind fun b g => (fy g).bind fun c g => (match c.res g with | some df => finBin (get2D df) a b g | none => .bad) | false => .bad) σ H Q) : tDGet2 (tI T fo) (tI T fx) (tI T fy) σ H Q := by
  obtain ⟨W, g, G, h⟩ := h
  refine ⟨W, g, G, (Pst.bind G.wok h).mono fun a g1 W1 H1 _ s1 G1 h1 v r => ?_⟩
  cases ed : isDk a g1 with
  | false => simp only [ed] at h1; exact h1.elim
  | true =>
    simp only [ed] at h1
    obtain ⟨xs, e, okx⟩ := isDk_at ed
    obtain ⟨p, kvs, rfl, ra, la, qa⟩ := (r.opd.rb G1 e).dct okx
    refine ⟨p, rfl, .inl ⟨kvs, ra⟩, W1, g1, G1, (Pst.bind G1.wok h1).mono fun b g2 W2 H2 _ s2 G2 h2 u r2' => ⟨W2, g2, G2, (Pst.bind G2.wok h2).mono fun c g3 W3 H3 _ s3 G3 h3 z r3' => ?_⟩⟩
    cases ec : c.res g3 with
    | none => simp only [ec] at h3; exact h3.elim
    | some df =>
      simp only [ec] at h3
      obtain ⟨d, e', r', e1, e2, e3, e4⟩ := finBin_ok h3.nb
      rw [e4] at h3
      have rb2 := (r.later G1 (s2.trans G1.wok s3)).rb G3 e1
      have by' := (r2'.later G2 s3).rb G3 e2
      have rz := r3'.opd.rb G3 ec
      cases d <;> first | (exfalso; cases e3; done) | skip
      rename_i ys
      have e3 : (if (scalarD df && okK ys) = true then (keyOf e').map fun k => ((dgetD ys k).getD df, false) else none) = some r' := e3
      by_cases sc0 : (scalarD df && okK ys) = true
      · rw [if_pos sc0] at e3
        obtain ⟨sc, oky⟩ := Bool.and_eq_true_iff.mp sc0
        cases hk : keyOf e' with
        | none => rw [hk] at e3; cases e3
        | some k =>
          rw [hk] at e3
          have e3 : some ((dgetD ys k).getD df, false) = some r' := e3
          cases e3
          obtain ⟨ey, _⟩ := keyOf_kV by' hk
          subst ey
          obtain ⟨p2, kvs2, ep, ra2, la2, qa2⟩ := rb2.dct oky
          cases ep
          have nw := fin_new G3 (fun b z => s1.there b (s2.there b (s3.there b z))) h3
          rcases rpK_get (k := k) qa2 with ⟨e5, e6⟩ | ⟨w, d', e5, e6, rw'⟩
          · rw [e6] at nw
            exact ⟨none, by rw [← e5]; exact dgk ra2, nw.old (rp_scalar sc rz)⟩
          · rw [e6] at nw
            exact ⟨some w, by rw [← e5]; exact dgk ra2, nw.old rw'⟩
      · rw [if_neg sc0] at e3; cases e3
theorem bi_in : ∀ f : BI, Str.ofString f.nm ∈ bltNames := by intro f; cases f <;> decide +kernel
theorem ty_boot : ∀ t : Ty, bootBuiltins (Str.ofString t.name) = some (.type t.name) := by intro t; cases t <;> decide +kernel
theorem ty_in : ∀ t : Ty, Str.ofString t.name ∈ bltNames := by intro t; cases t <;> decide +kernel
theorem isi_in : ("isinstance" : Str) ∈ bltNames := by decide +kernel
theorem rng_in : ("range" : Str) ∈ bltNames := by decide +kernel
theorem zip_in : ("zip" : Str) ∈ bltNames := by decide +kernel
theorem enum_in : ("enumerate" : Str) ∈ bltNames := by decide +kernel
section
variable {G : List Fn} {C : Calls} {k : Nat} {T : Th} {B : BC} {X : Cx}
theorem pe_callV {x : Str} {p pos : Pos} {e : Expr} {es : List Expr} {t : TA} {v : Value} {r : List V → Hp → VK → Prop} (f : BI) (hv : v = f.val) (hc : CallR X v r) (hg : Gl X x) (hm : X.mg x = none) (hb : bootBuiltins x = some v) (ha : PA X (e :: es) t) (hn : x ≠ "__name__") (hd : (x == ("__debug__" : Str)) = false)
    (he : starEach (e :: es) X.env = (false, eval e X.env) :: starEach es X.env) (hpl : (backTo pos (starEach es X.env)).any (·.1) = false) : PE X (.Call (.Name x p) (e :: es) [] pos) (tCB r t) := by
  subst hv
  cases f <;> first | exact pe_callB hc hg hm hb ha hn hd he hpl | exact pe_callTy hc hg hm hb ha hn hd he hpl
theorem arm_bi {f : BI} {es : Es} (hs : AllSE G C k es) : SE G C k (.bi f es) := by
  intro T B X ast O h
  cases ast <;> first | (cases h; done) | skip
  rename_i fn as kws p
  cases fn <;> first | (cases h; done) | skip
  rename_i x q
  cases kws <;> first | (cases h; done) | skip
  obtain ⟨h, h5⟩ := and2 h
  obtain ⟨h, h4⟩ := and2 h
  obtain ⟨h, h3⟩ := and2 h
  obtain ⟨h1, h2⟩ := and2 h
  have e := dec h1
  subst e
  obtain ⟨gl, db, nm⟩ := O.gl h2
  cases as with
  | nil => cases h3
  | cons a as =>
    have pr : PE X (.Call (.Name (Str.ofString f.nm) q) (a :: as) [] p) (tI T (ev C (wrOf G) (.bi f es))) :=
      (pe_callV f rfl (bi_any_of f O.dig O.sysm O.calm O.gd (Room.u66 O.room)) gl (O.blt _ (bi_in f)) (bi_boot f) (pa_of O hs h5 h4) nm db (star_cons (noSt h4).1 as X.env) (star_plain (noSt h4).2 p X.env)).imp fun _ _ _ q => bi_imp (f := evs C (wrOf G) es) q
    exact ⟨pr, fun t => pt_of pr t⟩
theorem set_in : ("set" : Str) ∈ bltNames := by decide +kernel
theorem sorted_in : ("sorted" : Str) ∈ bltNames := by decide +kernel
theorem boot_set2 : bootBuiltins "set" = some (.type "set") := by decide +kernel
theorem boot_sorted2 : bootBuiltins "sorted" = some (.builtin "sorted") := by decide +kernel
theorem arm_sset {x : E} (hx : SE G C k x) : SE G C k (.sset x) := by
  intro T B X ast O h
  cases ast <;> first | (cases h; done) | skip
  rename_i fn as kws p
  cases fn <;> first | (cases h; done) | skip
  rename_i f1 p1
  rcases as with _ | ⟨e, as⟩ <;> first | (cases h; done) | skip
  cases e <;> first | (cases h; done) | skip
  rename_i f2 bs kws2 p2
  cases f2 <;> first | (cases h; done) | skip
  rename_i f2 p3
  rcases bs with _ | ⟨e, _ | ⟨e2, bs⟩⟩ <;> first | (cases h; done) | skip
  cases kws2 <;> first | (cases h; done) | skip
  cases as <;> first | (cases h; done) | skip
  cases kws <;> first | (cases h; done) | skip
  obtain ⟨h, h6⟩ := and2 h
  obtain ⟨h, h5⟩ := and2 h
  obtain ⟨h, h4⟩ := and2 h
  obtain ⟨h, h3⟩ := and2 h
  obtain ⟨h1, h2⟩ := and2 h
  have e1 := dec h1
  have e2 := dec h2
  subst e1 e2
  have inner : PE X (.Call (.Name ("set" : Str) p3) [e] [] p2) (tCB (rSetIL X.K X.w) (tCons (tI T (ev C (wrOf G) x)) tNil)) :=
    pe_callTy (cr_setL O.calm) (O.gl h4).1 (O.blt _ set_in) boot_set2 (pa_cons' (hx O h6).1 (nt h5) pa_nil) (O.gl h4).2.2 (O.gl h4).2.1 (star_cons (nt h5) _ X.env) rfl
  have pr : PE X (.Call (.Name ("sorted" : Str) p1) [.Call (.Name ("set" : Str) p3) [e] [] p2] [] p) (tI T (ev C (wrOf G) (.sset x))) :=
    (pe_callB (cr_sortedSet O.calm) (O.gl h3).1 (O.blt _ sorted_in) boot_sorted2 (pa_cons' inner rfl pa_nil) (O.gl h3).2.2 (O.gl h3).2.1 (star_cons rfl _ X.env) rfl).imp fun _ _ _ q => sset_imp (f := ev C (wrOf G) x) q
  exact ⟨pr, fun t => pt_of pr t⟩
theorem arm_me {m : ME} {x : E} (hx : SE G C k x) : SE G C k (.me m x) := by
  intro T B X ast O h
  cases m
  cases ast <;> first | (cases h; done) | skip
  rename_i fn as kws p
  cases fn <;> first | (cases h; done) | skip
  rename_i a y q
  cases as <;> cases kws <;> first | (cases h; done) | skip
  obtain ⟨h, h4⟩ := and2 h
  obtain ⟨h, h3⟩ := and2 h
  obtain ⟨h1, h2⟩ := and2 h
  have e := dec h1
  subst e
  have pr : PE X (.Call (.Attribute a ("bit_length" : Str) q) [] [] p) (tI T (ev C (wrOf G) (.me .bitlen x))) := (pe_bits (hx O h4).1 (base_no h3) h2).imp fun _ _ _ q => bits_imp (f := ev C (wrOf G) x) q
  exact ⟨pr, fun t => pt_of pr t⟩
theorem arm_isi {x : E} {t : Ty} (hx : SE G C k x) : SE G C k (.isi x t) := by
  intro T B X ast O h
  cases ast <;> first | (cases h; done) | skip
  rename_i fn as kws p
  cases fn <;> first | (cases h; done) | skip
  rename_i y q
  rcases as with _ | ⟨a, _ | ⟨b, _ | ⟨c, as⟩⟩⟩ <;> first | (cases h; done) | (cases b <;> cases h; done) | skip
  cases b <;> first | (cases h; done) | skip
  rename_i ty q2
  cases kws <;> first | (cases h; done) | skip
  obtain ⟨h, h6⟩ := and2 h
  obtain ⟨h, h5⟩ := and2 h
  obtain ⟨h, h4⟩ := and2 h
  obtain ⟨h, h3⟩ := and2 h
  obtain ⟨h1, h2⟩ := and2 h
  have e := dec h1
  subst e
  have e := dec h2
  subst e
  obtain ⟨gl, db, nm⟩ := O.gl h3
  obtain ⟨gl2, db2, nm2⟩ := O.gl h4
  have pb : PE X (.Name (Str.ofString t.name) q2) (tC (.ty t.name)) := pe_bltn gl2 (O.blt _ (ty_in t)) (ty_boot t) rfl nm2 db2
  have pa : PA X [a, .Name (Str.ofString t.name) q2] (tCons (tI T (ev C (wrOf G) x)) (tCons (tC (.ty t.name)) tNil)) := pa_cons' (hx O h6).1 (nt h5) (pa_cons' pb rfl pa_nil)
  have pr : PE X (.Call (.Name ("isinstance" : Str) q) [a, .Name (Str.ofString t.name) q2] [] p) (tI T (ev C (wrOf G) (.isi x t))) :=
    (pe_callB (isi_D t) gl (O.blt _ isi_in) boot_isinstance pa nm db (star_cons (nt h5) _ X.env) rfl).imp fun _ _ _ q => isi_imp (f := ev C (wrOf G) x) q
  exact ⟨pr, fun t => pt_of pr t⟩
theorem mTys_ok (O : XOk T G C k B X) : ∀ {ts : List Ty} {es : List Expr}, mTys B ts es = true → PA X es (tTys ts)
  | [], [], _ => pa_nil
  | [], _ :: _, h => nomatch h
  | _ :: _, [], h => nomatch h
  | t :: ts, e :: es, h => by
    cases e <;> first | (cases h; done) | skip
    rename_i ty q2
    obtain ⟨h, h3⟩ := and2 h
    obtain ⟨h1, h2⟩ := and2 h
    have e := dec h1
    subst e
    obtain ⟨gl2, db2, nm2⟩ := O.gl h2
    exact pa_cons' (pe_bltn gl2 (O.blt _ (ty_in t)) (ty_boot t) rfl nm2 db2) rfl (mTys_ok O h3)
theorem arm_isT {x : E} {ts : List Ty} (hx : SE G C k x) : SE G C k (.isT x ts) := by
  intro T B X ast O h
  cases ast <;> first | (cases h; done) | skip
  rename_i fn as kws p
  cases fn <;> first | (cases h; done) | skip
  rename_i y q
  rcases as with _ | ⟨a, _ | ⟨b, _ | ⟨c, as⟩⟩⟩ <;> first | (cases h; done) | (cases b <;> cases h; done) | skip
  cases b <;> first | (cases h; done) | skip
  rename_i tys x1 q2
  cases kws <;> first | (cases h; done) | skip
  obtain ⟨h, h6⟩ := and2 h
  obtain ⟨h, h5⟩ := and2 h
  obtain ⟨h, h4⟩ := and2 h
  obtain ⟨h, h3⟩ := and2 h
  obtain ⟨h1, h2⟩ := and2 h
  have e := dec h1
  subst e
  obtain ⟨gl, db, nm⟩ := O.gl h3
  have pa : PA X [a, .Tuple tys x1 q2] (tCons (tI T (ev C (wrOf G) x)) (tCons (tTup (tTys ts)) tNil)) := pa_cons' (hx O h5).1 (nt h4) (pa_cons' (pe_tup (mTys_ok O h2)) rfl pa_nil)
  have pr : PE X (.Call (.Name ("isinstance" : Str) q) [a, .Tuple tys x1 q2] [] p) (tI T (ev C (wrOf G) (.isT x ts))) :=
    (pe_callB (isT_D ts) gl (O.blt _ isi_in) boot_isinstance pa nm db (star_cons (nt h4) _ X.env) rfl).imp fun _ _ _ q => isT_imp (f := ev C (wrOf G) x) (dec h6) q
  exact ⟨pr, fun t => pt_of pr t⟩
theorem arm_app {i : Nat} {x : E} (hx : SE G C k x) : SE G C k (.app i x) := by
  intro T B X ast O h
  cases ast <;> first | (cases h; done) | skip
  rename_i fn as kws p
  cases fn <;> first | (cases h; done) | skip
  rename_i o m q
  cases o <;> first | (cases h; done) | skip
  rename_i y q2
  rcases as with _ | ⟨a, _ | ⟨b, as⟩⟩ <;> first | (cases h; done) | skip
  cases kws <;> first | (cases h; done) | skip
  obtain ⟨h, h5⟩ := and2 h
  obtain ⟨h, h4⟩ := and2 h
  obtain ⟨h, h3⟩ := and2 h
  obtain ⟨h1, h2⟩ := and2 h
  have e := dec h2
  subst e
  have pr : PE X (.Call (.Attribute (.Name y q2) ("append" : Str) q) [a] [] p) (tI T (ev C (wrOf G) (.app i x))) :=
    (pe_bm F.plainAttrs_list F.slot_list_append F.type_list_append mt_append (O.var h1) (pa_cons' (hx O h5).1 (nt h4) pa_nil) rfl (by rw [star_cons (nt h4)]; rfl) h3 (star_cons (nt h4) _ X.env) rfl).imp fun _ _ _ q => app_imp (f := ev C (wrOf G) x) q
  exact ⟨pr, fun t => pt_of pr t⟩
theorem arm_pop {i : Nat} : SE G C k (.pop i) := by
  intro T B X ast O h
  cases ast <;> first | (cases h; done) | skip
  rename_i fn as kws p
  cases fn <;> first | (cases h; done) | skip
  rename_i o m q
  cases o <;> first | (cases h; done) | skip
  rename_i y q2
  cases as <;> cases kws <;> first | (cases h; done) | skip
  obtain ⟨h, h3⟩ := and2 h
  obtain ⟨h1, h2⟩ := and2 h
  have e := dec h2
  subst e
  have pr : PE X (.Call (.Attribute (.Name y q2) ("pop" : Str) q) [] [] p) (tI T (ev C (wrOf G) (.pop i))) :=
    (pe_bm0 F.plainAttrs_list F.slot_list_pop F.type_list_pop mt_pop (O.var h1) rfl h3).imp fun _ _ _ q => pop_imp q
  exact ⟨pr, fun t => pt_of pr t⟩
theorem arm_popk {i : Nat} {x : E} (hx : SE G C k x) : SE G C k (.popk i x) := by
  intro T B X ast O h
  cases ast <;> first | (cases h; done) | skip
  rename_i fn as kws p
  cases fn <;> first | (cases h; done) | skip
  rename_i o m q
  cases o <;> first | (cases h; done) | skip
  rename_i y q2
  rcases as with _ | ⟨a, _ | ⟨b, as⟩⟩ <;> first | (cases h; done) | skip
  cases kws <;> first | (cases h; done) | skip
  obtain ⟨h, h5⟩ := and2 h
  obtain ⟨h, h4⟩ := and2 h
  obtain ⟨h, h3⟩ := and2 h
  obtain ⟨h1, h2⟩ := and2 h
  have e := dec h2
  subst e
  have pr : PE X (.Call (.Attribute (.Name y q2) ("pop" : Str) q) [a] [] p) (tI T (ev C (wrOf G) (.popk i x))) :=
    (pe_bm F.plainAttrs_list F.slot_list_pop F.type_list_pop mt_popAt (O.var h1) (pa_cons' (hx O h5).1 (nt h4) pa_nil) rfl (by rw [star_cons (nt h4)]; rfl) h3 (star_cons (nt h4) _ X.env) rfl).imp fun _ _ _ q => popk_imp (f := ev C (wrOf G) x) q
  exact ⟨pr, fun t => pt_of pr t⟩
theorem arm_lrg1 {x : E} (hx : SE G C k x) : SE G C k (.lrg1 x) := by
  intro T B X ast O h
  cases ast <;> first | (cases h; done) | skip
  rename_i fn as kws p
  cases fn <;> first | (cases h; done) | skip
  rename_i f1 p1
  rcases as with _ | ⟨e, as⟩ <;> first | (cases h; done) | skip
  cases e <;> first | (cases h; done) | skip
  rename_i f2 bs kws2 p2
  cases f2 <;> first | (cases h; done) | skip
  rename_i f2 p3
  rcases bs with _ | ⟨e, _ | ⟨e2, bs⟩⟩ <;> first | (cases h; done) | skip
  cases kws2 <;> first | (cases h; done) | skip
  cases as <;> first | (cases h; done) | skip
  cases kws <;> first | (cases h; done) | skip
  obtain ⟨h, h6⟩ := and2 h
  obtain ⟨h, h5⟩ := and2 h
  obtain ⟨h, h4⟩ := and2 h
  obtain ⟨h, h3⟩ := and2 h
  obtain ⟨h1, h2⟩ := and2 h
  have e1 := dec h1
  have e2 := dec h2
  subst e1 e2
  have pr : PE X (.Call (.Name ("list" : Str) p1) [.Call (.Name ("range" : Str) p3) [e] [] p2] [] p) (tI T (ev C (wrOf G) (.lrg1 x))) :=
    (pe_listRg O.calm (O.gl h3).1 (O.blt _ list_in) (prg_1 (O.gl h4).1 (O.blt _ rng_in') (hx O h6).1 (star_cons (nt h5) _ X.env)) (star_cons rfl _ X.env)).imp fun _ _ _ q => lrg1_imp (f := ev C (wrOf G) x) q
  exact ⟨pr, fun t => pt_of pr t⟩
theorem arm_lenr {x : E} (hx : SE G C k x) : SE G C k (.lenr x) := by
  intro T B X ast O h
  cases ast <;> first | (cases h; done) | skip
  rename_i fn as kws p
  cases fn <;> first | (cases h; done) | skip
  rename_i f1 p1
  rcases as with _ | ⟨e, as⟩ <;> first | (cases h; done) | skip
  cases e <;> first | (cases h; done) | skip
  rename_i f2 bs kws2 p2
  cases f2 <;> first | (cases h; done) | skip
  rename_i f2 p3
  rcases bs with _ | ⟨e, _ | ⟨e2, bs⟩⟩ <;> first | (cases h; done) | skip
  cases kws2 <;> first | (cases h; done) | skip
  cases as <;> first | (cases h; done) | skip
  cases kws <;> first | (cases h; done) | skip
  obtain ⟨h, h6⟩ := and2 h
  obtain ⟨h, h5⟩ := and2 h
  obtain ⟨h, h4⟩ := and2 h
  obtain ⟨h, h3⟩ := and2 h
  obtain ⟨h1, h2⟩ := and2 h
  have e1 := dec h1
  have e2 := dec h2
  subst e1 e2
  have pr : PE X (.Call (.Name ("len" : Str) p1) [.Call (.Name ("range" : Str) p3) [e] [] p2] [] p) (tI T (ev C (wrOf G) (.lenr x))) :=
    (pe_lenRg (O.gl h3).1 (O.blt _ len_in') (prg_1 (O.gl h4).1 (O.blt _ rng_in') (hx O h6).1 (star_cons (nt h5) _ X.env)) (star_cons rfl _ X.env)).imp fun _ _ _ q => lenr_imp (f := ev C (wrOf G) x) q
  exact ⟨pr, fun t => pt_of pr t⟩
theorem arm_lrg2 {x y : E} (hx : SE G C k x) (hy : SE G C k y) : SE G C k (.lrg2 x y) := by
  intro T B X ast O h
  cases ast <;> first | (cases h; done) | skip
  rename_i fn as kws p
  cases fn <;> first | (cases h; done) | skip
  rename_i f1 p1
  rcases as with _ | ⟨e, as⟩ <;> first | (cases h; done) | skip
  cases e <;> first | (cases h; done) | skip
  rename_i f2 bs kws2 p2
  cases f2 <;> first | (cases h; done) | skip
  rename_i f2 p3
  rcases bs with _ | ⟨a1, _ | ⟨a2, _ | ⟨a3, bs⟩⟩⟩ <;> first | (cases h; done) | skip
  cases kws2 <;> first | (cases h; done) | skip
  cases as <;> first | (cases h; done) | skip
  cases kws <;> first | (cases h; done) | skip
  obtain ⟨h, h8⟩ := and2 h
  obtain ⟨h, h7⟩ := and2 h
  obtain ⟨h, h6⟩ := and2 h
  obtain ⟨h, h5⟩ := and2 h
  obtain ⟨h, h4⟩ := and2 h
  obtain ⟨h, h3⟩ := and2 h
  obtain ⟨h1, h2⟩ := and2 h
  have e1 := dec h1
  have e2 := dec h2
  subst e1 e2
  have pr : PE X (.Call (.Name ("list" : Str) p1) [.Call (.Name ("range" : Str) p3) [a1, a2] [] p2] [] p) (tI T (ev C (wrOf G) (.lrg2 x y))) :=
    (pe_listRg O.calm (O.gl h3).1 (O.blt _ list_in) (prg_2 (O.gl h4).1 (O.blt _ rng_in') (hx O h7).1 (hy O h8).1 (star_cons (nt h5) _ X.env) (star_cons (nt h6) _ X.env) (by rw [star_cons (nt h6)]; rfl)) (star_cons rfl _ X.env)).imp fun _ _ _ q => lrg2_imp (fa := ev C (wrOf G) x) (fb := ev C (wrOf G) y) q
  exact ⟨pr, fun t => pt_of pr t⟩
theorem arm_get1 {o x : E} (ho : SE G C k o) (hx : SE G C k x) : SE G C k (.get1 o x) := by
  intro T B X ast O h
  cases ast <;> first | (cases h; done) | skip
  rename_i fn as kws p
  cases fn <;> first | (cases h; done) | skip
  rename_i a y q
  rcases as with _ | ⟨e, _ | ⟨e2, as⟩⟩ <;> cases kws <;> first | (cases h; done) | skip
  obtain ⟨h, h6⟩ := and2 h
  obtain ⟨h, h5⟩ := and2 h
  obtain ⟨h, h4⟩ := and2 h
  obtain ⟨h, h3⟩ := and2 h
  obtain ⟨h1, h2⟩ := and2 h
  have e := dec h1
  subst e
  have u := Room.u65 O.room
  have pr : PE X (.Call (.Attribute a ("get" : Str) q) [e] [] p) (tI T (ev C (wrOf G) (.get1 o x))) :=
    (pe_dget1 (by omega) (ho O h5).1 (hx O h6).1 ⟨base_no h3, by rw [star_cons (nt h4)]; rfl, h2, by rw [star_cons (nt h4)]; rfl⟩).imp fun _ _ _ q => get1_imp (fo := ev C (wrOf G) o) (fx := ev C (wrOf G) x) q
  exact ⟨pr, fun t => pt_of pr t⟩
theorem arm_get2 {o x y : E} (ho : SE G C k o) (hx : SE G C k x) (hy : SE G C k y) : SE G C k (.get2 o x y) := by
  intro T B X ast O h
  cases ast <;> first | (cases h; done) | skip
  rename_i fn as kws p
  cases fn <;> first | (cases h; done) | skip
  rename_i a y q
  rcases as with _ | ⟨e, _ | ⟨e2, _ | ⟨e3, as⟩⟩⟩ <;> cases kws <;> first | (cases h; done) | skip
  obtain ⟨h, h8⟩ := and2 h
  obtain ⟨h, h7⟩ := and2 h
  obtain ⟨h, h6⟩ := and2 h
  obtain ⟨h, h5⟩ := and2 h
  obtain ⟨h, h4⟩ := and2 h
  obtain ⟨h, h3⟩ := and2 h
  obtain ⟨h1, h2⟩ := and2 h
  have e := dec h1
  subst e
  have u := Room.u65 O.room
  have pr : PE X (.Call (.Attribute a ("get" : Str) q) [e, e2] [] p) (tI T (ev C (wrOf G) (.get2 o x y))) :=
    (pe_dget2 (by omega) (ho O h6).1 (hx O h7).1 (hy O h8).1 ⟨base_no h3, by rw [star_cons (nt h4), star_cons (nt h5)]; rfl, h2, by rw [star_cons (nt h4), star_cons (nt h5)]; rfl⟩).imp fun _ _ _ q => get2_imp (fo := ev C (wrOf G) o) (fx := ev C (wrOf G) x) (fy := ev C (wrOf G) y) q
  exact ⟨pr, fun t => pt_of pr t⟩
end
end TL
/-! TLX: defs as values, exceptions as values: expressions. -/
namespace TL
open PySem PySem.Spec PyProof.Rows L2
variable [Plc]
theorem rb_fn {W : Addr → Prop} {H : Hp} {v : V} {d : D} {f : Nat} (r : RB W H v d) (h : asFn d = some f) : ∃ a, v = .ref a ∧ Plc.fa f a := by
  unfold asFn at h
  split at h
  · rename_i z
    cases h
    rcases r with r | ⟨a, e, _, _, _, q⟩
    · cases r with
      | dct _ _ _ q => exact absurd q.okK (by simp [okK, dkd])
      | fn e => exact ⟨_, rfl, e⟩
    · exact absurd q.okK (by simp [okK, dkd])
  · cases h
theorem rb_ex {W : Addr → Prop} {H : Hp} {v : V} {d : D} {c : Nat} {fs : List D} (r : RB W H v d) (h : asEx d = some (c, fs)) :
    ∃ (a C dd : Addr) (v' : V) (e : D), v = .ref a ∧ ¬ W a ∧ ¬ W dd ∧ H a = some (xo a (.ref C) (some dd)) ∧ Plc.ca c C ∧ H dd = some (.xd [("value", v')]) ∧ fs = [e] ∧ Rp W H v' e := by
  unfold asEx at h
  split at h
  · rename_i z fs'
    cases h
    rcases r with r | ⟨a, e, _, _, _, q⟩
    · cases r with
      | dct _ _ _ q => exact absurd q.okK (by simp [okK, dkd])
      | exc n n2 e c e2 q => exact ⟨_, _, _, _, _, rfl, n, n2, e, c, e2, rfl, q⟩
    · exact absurd q.okK (by simp [okK, dkd])
  · cases h
section
variable {G : List Fn} {C : Calls} {k : Nat} {T : Th} {B : BC} {X : Cx}
theorem arm_fv {i : Nat} : SE G C k (.fv i) := by
  intro T B X ast O h
  cases ast <;> first | (cases h; done) | skip
  rename_i x p
  obtain ⟨h1, h2⟩ := and2 h
  obtain ⟨F, e1, e2, e0⟩ := fn_at h1
  subst e2
  obtain ⟨g, fd, m1, m2, m3, m4, _⟩ := O.fns i F e1 e0
  obtain ⟨gl, db, _⟩ := O.gl h2
  have pr : PE X (.Name F.name p) (tI T (ev C (wrOf G) (.fv i))) := (pe_glob (v := .ref g) gl m1 rfl db).imp fun σ H Q z => const_imp (fun W H => .fn (O.fad i F g e1 e0 m1)) z
  exact ⟨pr, fun t => pt_of pr t⟩
/-- the place i holds a def -/
def tCallL2 (T : Th) (C : Calls) (i : Nat) (t : TA) : TE := fun σ H Q => ∃ (a : Addr) (f : Nat), σ[i]? = some (some (.ref a)) ∧ Plc.fa f a ∧ t σ H fun vs H1 => spF T.xr C f vs H1 Q fun cls d H' => T.wx cls d σ H'
theorem callv_imp {i : Nat} {fs : Gv → Rs (List Op)} {σ : L2.St} {H : Hp} {Q : VK} (h : tI T (fun g => (rdB i g).bind fun a g => match resFn a g with | none => .bad | some f => (fs g).bind fun os g => callR C f (wrOf G f) os g) σ H Q) : tCallL2 T C i (tIs T fs) σ H Q := by
  obtain ⟨W, g, Gk, h⟩ := h
  have h : Pst T W σ g H (fun o g' W' H' => ∀ v, ORp σ g H W' g' H' v o → Q v H') ((rdB i g).bind fun a g => match resFn a g with | none => .bad | some f => (fs g).bind fun os g => callR C f (wrOf G f) os g) := h
  unfold rdB at h
  cases e : look g i with
  | none => rw [e] at h; exact h.elim
  | some d =>
    rw [e] at h
    have h' : Pst T W σ g H (fun o g' W' H' => ∀ v, ORp σ g H W' g' H' v o → Q v H') (match resFn (.slot i) g with | none => .bad | some f => (fs g).bind fun os g => callR C f (wrOf G f) os g) := h
    have er : resFn (.slot i) g = asFn d := by
      show (match look g i with | none => none | some d => asFn d) = _
      rw [e]
    rw [er] at h'
    cases e2 : asFn d with
    | none => rw [e2] at h'; exact h'.elim
    | some f =>
      rw [e2] at h'
      obtain ⟨v, ev⟩ := look_at Gk e
      obtain ⟨a, rfl, fa⟩ := rb_fn (look_rb Gk e ev) e2
      exact ⟨a, f, ev, fa, call_imp (f := fs) ⟨W, g, Gk, h'⟩⟩
theorem pe_callLG (O : XOk T G C k B X) {i : Nat} {x : Str} {p pos : Pos} {e : Expr} {es : List Expr} {t : TA} (h : rdB? B i x = true) (ha : PA X (e :: es) t)
    (he : starEach (e :: es) X.env = (false, eval e X.env) :: starEach es X.env) (hp : (backTo pos (starEach es X.env)).any (·.1) = false) : PE X (.Call (.Name x p) (e :: es) [] pos) (tCallL2 T C i t) := by
  constructor
  intro pins s σ H Q I hh
  obtain ⟨a, f, hs, fa, ht⟩ := hh
  obtain ⟨F, e1, e0, m1⟩ := O.fav f a fa
  obtain ⟨g, fd, m1', m2, m3, m4, _⟩ := O.fns f F e1 e0
  have eg : g = a := by
    have := m1'.symm.trans m1
    cases this
    rfl
  subst eg
  refine wpAny_Call_Name_kw (thn ((O.var (pos := p) h).run pins s σ H (fun v H1 => v = .ref g ∧ H1 = H) I ⟨.ref g, hs, rfl, rfl⟩) fun u s1 ⟨v, H1, I1, r1, q1⟩ => ?_)
  obtain ⟨rfl, rfl⟩ := q1
  cases r1
  have body := thn (ha.run pos pins s1 σ H1 _ I1 ht) (Q' := fun us s2 => X.K.In s2.heap ∧ wpAny (model X.prog X.w) X.A (call (.ref g) us) (EP X pins σ Q) X.xe s2) fun us s2 q => by
    obtain ⟨vs, H2, I2, r, q⟩ := q
    have hl : us.length = (F.N.take F.np).length := by rw [← r.length]; exact m4.len _ _ _ _ q
    have b := m3 s2 us I2.kIn (by rw [List.append_nil]; exact hl)
    rw [List.append_nil] at b
    exact ⟨I2.kIn, wp_call_of (run_G m4 O.gd O.room O.takes I2 b r q)⟩
  exact PySem.W.callWith_K (h₀ := X.base) I.ok.mod.kin m2 body he hp
theorem arm_callv {i : Nat} {es : Es} (hs : AllSE G C k es) : SE G C k (.callv i es) := by
  intro T B X ast O h
  cases ast <;> first | (cases h; done) | skip
  rename_i fn as kws p
  cases fn <;> first | (cases h; done) | skip
  rename_i x q
  cases kws <;> first | (cases h; done) | skip
  obtain ⟨h, h4⟩ := and2 h
  obtain ⟨h, h3⟩ := and2 h
  obtain ⟨h1, h2⟩ := and2 h
  have pa := pa_of O hs h4 h3
  have pr : PE X (.Call (.Name x q) as [] p) (tI T (ev C (wrOf G) (.callv i es))) := by
    cases as with
    | nil => cases h2
    | cons a as => exact (pe_callLG O h1 pa (star_cons (noSt h3).1 as X.env) (star_plain (noSt h3).2 p X.env)).imp fun _ _ _ q => callv_imp (G := G) (fs := evs C (wrOf G) es) q
  exact ⟨pr, fun t => pt_of pr t⟩
/-! ### isinstance of an exception class -/
def rIsCl (C : V) (f : D → Option (D × Bool)) : List V → Hp → VK → Prop := fun xs H Q => ∃ (W : Addr → Prop) (d : D) (x : V) (r : D × Bool), xs = [x, C] ∧ RB W H x d ∧ f d = some r ∧ ∀ b, r = (.bool b, false) → Q (.bl b) H
theorem isC_D {Cl : Addr} {cs : List Nat} (ok : ClsK X.K Cl cs) (cav : ∀ (i : Nat) (D : Addr), Plc.ca i D → ExK X.K D) : CallR X (.builtin "isinstance") (rIsCl (.ref Cl) (isCO cs)) := by
  intro pins s σ H vs us Q I rv h
  obtain ⟨W, d, x, r, rfl, b, f, q⟩ := h
  unfold isCO at f
  cases e : asEx d with
  | some p =>
    rw [e] at f
    cases f
    obtain ⟨c, fs⟩ := p
    obtain ⟨a, D, dd, v', e', rfl, na, nd, ea, ca, ed, rfl, rv'⟩ := rb_ex b e
    exact call_isK pins s σ H _ us Q I rv ⟨a, D, dd, _, .ref Cl, .ref Cl, _, rfl, (cav c D ca).ec, ea, ed, fun u r => r, ok.kit c D ca, q _ rfl⟩
  | none =>
    rw [e] at f
    by_cases td : tyd d = true
    · have f : (if tyd d = true then some (PyData.bool false, false) else none) = some r := f
      rw [if_pos td] at f
      cases f
      exact call_isi pins s σ H _ us Q I rv ⟨x, .ref Cl, _, _, false, rfl, .own Cl, tyx_of td b, ok.non (k7 d), q _ rfl⟩
    · have f : (if tyd d = true then some (PyData.bool false, false) else none) = some r := f
      rw [if_neg td] at f; cases f
theorem isV_D (cav : ∀ (i : Nat) (D : Addr), Plc.ca i D → ExK X.K D) : CallR X (.builtin "isinstance") (rIsCl (.ty "ValueError") isVO) := by
  intro pins s σ H vs us Q I rv h
  obtain ⟨W, d, x, r, rfl, b, f, q⟩ := h
  unfold isVO at f
  cases e : asEx d with
  | some p =>
    rw [e] at f
    cases f
    obtain ⟨c, fs⟩ := p
    obtain ⟨a, D, dd, v', e', rfl, na, nd, ea, ca, ed, rfl, rv'⟩ := rb_ex b e
    exact call_isK pins s σ H _ us Q I rv ⟨a, D, dd, _, .ty "ValueError", .type "ValueError", _, rfl, (cav c D ca).ec, ea, ed, fun u r => r, (cav c D ca).ve, q _ rfl⟩
  | none =>
    rw [e] at f
    by_cases td : tyd d = true
    · have f : (if tyd d = true then some (PyData.bool false, false) else none) = some r := f
      rw [if_pos td] at f
      cases f
      exact call_isi pins s σ H _ us Q I rv ⟨x, .ty "ValueError", _, _, false, rfl, .ty _, tyx_of td b, kit_ty (by cases k7 d <;> decide +kernel), q _ rfl⟩
    · have f : (if tyd d = true then some (PyData.bool false, false) else none) = some r := f
      rw [if_neg td] at f; cases f
theorem isCl_imp {f : Gv → Rs Op} {c : V} {op : D → Option (D × Bool)} (hop : ∀ d r, op d = some r → ∃ b, r = (.bool b, false)) {σ : L2.St} {H : Hp} {Q : VK} (h : tI T (fun g => (f g).bind fun a g => finUn op a g) σ H Q) : tCB (rIsCl c op) (tCons (tI T f) (tCons (tC c) tNil)) σ H Q := by
  obtain ⟨W, g, Gk, h⟩ := h
  refine ⟨W, g, Gk, (Pst.bind Gk.wok h).mono fun a g1 W1 H1 _ s1 G1 h1 v r => ?_⟩
  obtain ⟨d, r', e1, e2, e3⟩ := finUn_ok h1.nb
  rw [e3] at h1
  obtain ⟨b0, rfl⟩ := hop d r' e2
  refine ⟨W1, d, v, _, rfl, r.opd.rb G1 e1, e2, fun b eb => ?_⟩
  cases eb
  exact h1 H1 W1 Stp.refl G1 _ (.bl _)
theorem isCO_b {cs : List Nat} (d : D) (r : D × Bool) (h : isCO cs d = some r) : ∃ b, r = (.bool b, false) := by
  unfold isCO at h
  split at h
  · cases h; exact ⟨_, rfl⟩
  · split at h
    · cases h; exact ⟨_, rfl⟩
    · cases h
theorem isVO_b (d : D) (r : D × Bool) (h : isVO d = some r) : ∃ b, r = (.bool b, false) := by
  unfold isVO at h
  split at h
  · cases h; exact ⟨_, rfl⟩
  · split at h
    · cases h; exact ⟨_, rfl⟩
    · cases h
theorem clOf_at {c : Nat} {x : Str} {cs : List Nat} (h : clOf G c x cs = true) : ∃ F, G[c]? = some F ∧ F.name = x ∧ F.cl = some cs := by
  unfold clOf at h
  split at h
  · rename_i F e
    obtain ⟨h1, h2⟩ := and2 h
    exact ⟨F, e, dec h1, dec h2⟩
  · cases h
theorem arm_isC {x : E} {c : Nat} {cs : List Nat} (hx : SE G C k x) : SE G C k (.isC x c cs) := by
  intro T B X ast O h
  cases ast <;> first | (cases h; done) | skip
  rename_i fn as kws p
  cases fn <;> first | (cases h; done) | skip
  rename_i y q
  rcases as with _ | ⟨a, _ | ⟨b, _ | ⟨c2, as⟩⟩⟩ <;> first | (cases h; done) | (cases b <;> cases h; done) | skip
  cases b <;> first | (cases h; done) | skip
  rename_i ty q2
  cases kws <;> first | (cases h; done) | skip
  obtain ⟨h, h6⟩ := and2 h
  obtain ⟨h, h5⟩ := and2 h
  obtain ⟨h, h4⟩ := and2 h
  obtain ⟨h, h3⟩ := and2 h
  obtain ⟨h1, h2⟩ := and2 h
  have e := dec h1
  subst e
  obtain ⟨F, e1, e2, e3⟩ := clOf_at h2
  subst e2
  obtain ⟨Cl, m, ca, ok, _⟩ := O.cls c F cs e1 e3
  obtain ⟨gl, db, nm⟩ := O.gl h3
  obtain ⟨gl2, db2, nm2⟩ := O.gl h4
  have pb : PE X (.Name F.name q2) (tC (.ref Cl)) := pe_glob (v := .ref Cl) gl2 m rfl db2
  have pa : PA X [a, .Name F.name q2] (tCons (tI T (ev C (wrOf G) x)) (tCons (tC (.ref Cl)) tNil)) := pa_cons' (hx O h6).1 (nt h5) (pa_cons' pb rfl pa_nil)
  have pr : PE X (.Call (.Name ("isinstance" : Str) q) [a, .Name F.name q2] [] p) (tI T (ev C (wrOf G) (.isC x c cs))) :=
    (pe_callB (isC_D ok O.cav) gl (O.blt _ isi_in) boot_isinstance pa nm db (star_cons (nt h5) _ X.env) rfl).imp fun _ _ _ q => isCl_imp (f := ev C (wrOf G) x) isCO_b q
  exact ⟨pr, fun t => pt_of pr t⟩
theorem ve_in : ("ValueError" : Str) ∈ bltNames := by decide +kernel
theorem boot_ve : bootBuiltins "ValueError" = some (.type "ValueError") := by decide +kernel
theorem arm_isV {x : E} (hx : SE G C k x) : SE G C k (.isV x) := by
  intro T B X ast O h
  cases ast <;> first | (cases h; done) | skip
  rename_i fn as kws p
  cases fn <;> first | (cases h; done) | skip
  rename_i y q
  rcases as with _ | ⟨a, _ | ⟨b, _ | ⟨c2, as⟩⟩⟩ <;> first | (cases h; done) | (cases b <;> cases h; done) | skip
  cases b <;> first | (cases h; done) | skip
  rename_i ty q2
  cases kws <;> first | (cases h; done) | skip
  obtain ⟨h, h6⟩ := and2 h
  obtain ⟨h, h5⟩ := and2 h
  obtain ⟨h, h4⟩ := and2 h
  obtain ⟨h, h3⟩ := and2 h
  obtain ⟨h1, h2⟩ := and2 h
  have e := dec h1
  subst e
  have e := dec h2
  subst e
  obtain ⟨gl, db, nm⟩ := O.gl h3
  obtain ⟨gl2, db2, nm2⟩ := O.gl h4
  have pb : PE X (.Name ("ValueError" : Str) q2) (tC (.ty "ValueError")) := pe_bltn gl2 (O.blt _ ve_in) boot_ve rfl nm2 db2
  have pa : PA X [a, .Name ("ValueError" : Str) q2] (tCons (tI T (ev C (wrOf G) x)) (tCons (tC (.ty "ValueError")) tNil)) := pa_cons' (hx O h6).1 (nt h5) (pa_cons' pb rfl pa_nil)
  have pr : PE X (.Call (.Name ("isinstance" : Str) q) [a, .Name ("ValueError" : Str) q2] [] p) (tI T (ev C (wrOf G) (.isV x))) :=
    (pe_callB (isV_D O.cav) gl (O.blt _ isi_in) boot_isinstance pa nm db (star_cons (nt h5) _ X.env) rfl).imp fun _ _ _ q => isCl_imp (f := ev C (wrOf G) x) isVO_b q
  exact ⟨pr, fun t => pt_of pr t⟩
/-! ### x.value -/
theorem fld_imp (cav : ∀ (i : Nat) (D : Addr), Plc.ca i D → ExK X.K D) {f : Gv → Rs Op} {σ : L2.St} {H : Hp} {Q : VK} (h : tI T (fun g => (f g).bind fun a g => finUn (fldO 0) a g) σ H Q) : tXk X.K "value" (tI T f) σ H Q := by
  obtain ⟨W, g, Gk, h⟩ := h
  refine ⟨W, g, Gk, (Pst.bind Gk.wok h).mono fun a g1 W1 H1 _ s1 G1 h1 v r => ?_⟩
  obtain ⟨d, r', e1, e2, e3⟩ := finUn_ok h1.nb
  rw [e3] at h1
  unfold fldO at e2
  cases e : asEx d with
  | none => rw [e] at e2; cases e2
  | some p =>
    rw [e] at e2
    obtain ⟨c, fs⟩ := p
    obtain ⟨a', D, dd, v', e', rfl, na, nd, ea, ca, ed, rfl, rv'⟩ := rb_ex (r.opd.rb G1 e1) e
    have e2 : some (e', false) = some r' := e2
    cases e2
    exact ⟨a', D, dd, _, v', rfl, (cav c D ca).xf, (cav c D ca).no, ea, ed, by simp [List.lookup], h1 H1 W1 Stp.refl G1 _ rv'⟩
theorem arm_fld {x : E} (hx : SE G C k x) : SE G C k (.fld x) := by
  intro T B X ast O h
  cases ast <;> first | (cases h; done) | skip
  rename_i e n p
  obtain ⟨h, h3⟩ := and2 h
  obtain ⟨h1, h2⟩ := and2 h
  have e0 := dec h1
  subst e0
  have pr : PE X (.Attribute e ("value" : Str) p) (tI T (ev C (wrOf G) (.fld x))) := (pe_xk (hx O h3).1 (base_no h2)).imp fun _ _ _ q => fld_imp O.cav (f := ev C (wrOf G) x) q
  exact ⟨pr, fun t => pt_of pr t⟩
end
end TL
/-! TL22: comprehensions, what is walked, and every expression. -/
namespace TL
open PySem PySem.Spec PyProof.Rows L2
variable [Plc]

section
variable {G : List Fn} {C : Calls} {k : Nat} {T : Th} {B : BC} {X : Cx}
theorem XOk.st (O : XOk T G C k B X) {i : Nat} {x : Str} (h : stB B i x = true) : X.N[i]? = some x ∧ L2.Loc X.env.scope x ∧ (X.fn x = true ∨ X.env.scope.names.lookup x = some .local) := by
  unfold stB at h
  obtain ⟨h1, h2⟩ := and2 h
  refine ⟨by rw [O.N]; exact dec h1, ?_⟩
  unfold L2.Loc
  rw [O.names]
  rcases (Bool.or_eq_true _ _).mp h2 with h2 | h2
  · exact ⟨.inl (dec h2), .inr (dec h2)⟩
  · obtain ⟨h2, h3⟩ := and2 h2
    exact ⟨.inr (dec h2), .inl (O.own x (List.contains_iff_mem.mp h3))⟩
theorem XOk.nm (O : XOk T G C k B X) {i : Nat} {x : Str} {pos : Pos} (h : stB B i x = true) : PG X (.Name x pos) (gName i) := by
  obtain ⟨h1, h2, h3⟩ := O.st h
  exact pg_name O.nd h1 h2 h3
theorem pgs_tgs (O : XOk T G C k B X) : ∀ {is : List Nat} {es : List Expr}, mTgs B is es = true → PGs X es (gNames is) ∧ (assignEach es X.env).length = is.length ∧ (assignEach es X.env).findIdx? (·.1) = none
  | [], [], _ => ⟨pgs_nil, rfl, rfl⟩
  | [], _ :: _, h => nomatch h
  | _ :: _, [], h => nomatch h
  | i :: is, e :: es, h => by
    cases e <;> first | (cases h; done) | skip
    rename_i x p
    obtain ⟨h1, h2⟩ := and2 h
    obtain ⟨a, b, c⟩ := pgs_tgs O h2
    refine ⟨pgs_cons (O.nm h1) a rfl, ?_, ?_⟩
    · show (assignEach es X.env).length + 1 = is.length + 1
      rw [b]
    · show List.findIdx? (·.1) ((false, assign (.Name x p) X.env) :: assignEach es X.env) = none
      rw [List.findIdx?_cons]
      simp only [Bool.false_eq_true, if_false, c, Option.map_none]
theorem pg_tg (O : XOk T G C k B X) {tg : Tg} {t : Expr} (h : mTg B tg t = true) : PG X t (tgR X.K tg) := by
  cases tg with
  | nm i =>
    cases t <;> first | (cases h; done) | skip
    exact O.nm h
  | tp is =>
    cases t <;> first | (cases h; done) | skip
    obtain ⟨a, b, c⟩ := pgs_tgs O h
    exact ⟨fun pins s σ H v u Q I r hw => hw.elim (fun z => (pg_tup O.calm a b c).run pins s σ H v u Q I r z) fun z => (pg_lst O.calm a b c).run pins s σ H v u Q I r z⟩
/-- the context of a comprehension's turns -/
def T0 (T : Th) : Th := { xr := T.xr, wx := fun _ _ _ _ => False }
theorem relN_eq {names : List (Str × NameKind)} {env : Env} (hk : env.scope.kind = .function) (hn : env.scope.names = B.names) :
    (names.map fun (n, k) => if (k == .free && env.scope.kind == .function && env.kindOf n == some .cell) then (n, .cell) else (n, k)) = relN names B := by
  unfold relN
  refine List.map_congr_left fun p _ => ?_
  obtain ⟨n, k⟩ := p
  have e : (k == NameKind.free && env.scope.kind == .function && env.kindOf n == some .cell) = (k == .free && B.names.lookup n == some .cell) := by
    rw [hk]
    unfold Env.kindOf
    rw [hn]
    show (k == NameKind.free && true && _) = _
    rw [Bool.and_true]
  show (if (k == NameKind.free && env.scope.kind == .function && env.kindOf n == some .cell) = true then _ else _) = if (k == .free && B.names.lookup n == some .cell) = true then _ else _
  rw [e]
theorem blk_ok (O : XOk T G C k B X) {scope : Scope} (hk : scope.kind = .function) (s : Shared) (H : Hp) (cl : List (Str × Addr)) (A : Addr) (fp : List Addr) : XOk (T0 T) G C k (blkB scope B) (X.blk s H scope (compEnvC scope cl A X.env) fp) where
  names := relN_eq O.kind O.names
  kind := hk
  N := O.N
  own := fun x hx => by
    obtain ⟨p, _, e⟩ := List.mem_filterMap.mp hx
    split at e
    · rename_i q
      cases e
      show (scope.names.lookup p.1 == some NameKind.cell) = true
      rw [q]; rfl
    · cases e
  nd := O.nd
  calm := O.calm
  gd := O.gd
  room := O.room
  sysm := O.sysm
  takes := fun u s' ⟨_, _, _, _, _, _, _, _, _, _, _, _, _, _, _, _, w⟩ => w
  cons := O.cons
  fns := O.fns
  marks := O.marks
  mlev := O.mlev
  blt := O.blt
  dig := O.dig
  xrq := O.xrq
  fav := O.fav
  fad := O.fad
  cav := O.cav
  cls := O.cls
theorem blk_of (O : XOk T G C k B X) {scope : Scope} {own : List (Str × Nat)} (h : blkC B.N (scOf B) scope own = true) : BlkOk X.N X.env.scope scope own := by
  have b := blkOk_by h
  rw [← O.N] at b
  refine ⟨b.kind, b.uniq, b.ix, fun y hy e => ?_, b.own⟩
  rw [O.names]
  exact b.free y hy e
theorem ownL_snd (vs : List Nat) : (ownL B vs).map (·.2) = vs := by
  unfold ownL
  rw [List.map_map]
  exact (List.map_congr_left fun _ _ => rfl).trans (List.map_id vs)
theorem tst1_imp {f : Gv → Rs Op} {σ : L2.St} {H : Hp} {Q : Bool → Hp → Prop} (h : tTb T (fun g => (f g).bind fun a g => br (tst a g) (.ok true g) (.ok false g)) σ H Q) : tT T f σ H Q := by
  obtain ⟨W, g, O, h⟩ := h
  refine ⟨W, g, O, (Pst.bind O.wok h).mono fun a g1 W1 H1 _ s1 G1 h1 => ?_⟩
  obtain ⟨b, hb, ht, hf⟩ := br_pst h1
  cases b with
  | true => exact ⟨true, hb, ht rfl H1 W1 Stp.refl G1⟩
  | false => exact ⟨false, hb, hf rfl H1 W1 Stp.refl G1⟩
theorem pts_of (O : XOk T G C k B X) {cs : Es} {ifs : List Expr} (hs : AllSE G C k cs) (h : mTs G cs B ifs = true) : PTs X ifs (tTb T (evTs C (wrOf G) cs)) := by
  cases cs with
  | nil =>
    cases ifs with
    | nil => exact ⟨fun pins s σ H Q I ⟨W, g, O, q⟩ => pts_nil.run pins s σ H Q I (q H W Stp.refl O)⟩
    | cons _ _ => cases h
  | cons x r =>
    cases r with
    | cons _ _ => cases h
    | nil =>
      rcases ifs with _ | ⟨a, _ | ⟨b, bs⟩⟩ <;> first | (cases h; done) | skip
      obtain ⟨h1, h2⟩ := and2 h
      exact pts_one (((hs.1 O h1).2 h2).imp fun _ _ _ q => tst1_imp (f := ev C (wrOf G) x) q)
theorem arm_lc {vs : List Nat} {tg : Tg} {it : It} {cs : Es} {x : E} (hi : SIt G C k it) (hs : AllSE G C k cs) (hx : SE G C k x) : SE G C k (.lc vs tg it cs x) := by
  intro T B X ast O h
  cases ast <;> first | (cases h; done) | skip
  rename_i elt gens scope p
  rcases gens with _ | ⟨⟨t, i, ifs, z⟩, _ | ⟨g2, gens⟩⟩ <;> first | (cases h; done) | skip
  obtain ⟨h, h8⟩ := and2 h
  obtain ⟨h, h7⟩ := and2 h
  obtain ⟨h, h6⟩ := and2 h
  obtain ⟨h, h5⟩ := and2 h
  obtain ⟨h, h4⟩ := and2 h
  obtain ⟨h, h3⟩ := and2 h
  obtain ⟨h1, h2⟩ := and2 h
  have e := dec h1
  subst e
  have ok := blk_of O h2
  have pr : PE X (.ListComp elt [⟨t, i, ifs, 0⟩] scope p) (tI T (ev C (wrOf G) (.lc vs tg it cs x))) := by
    refine (pe_lc (g := tgR X.K tg) (tt := tTb (T0 T) (evTs C (wrOf G) cs)) (te := tI (T0 T) (ev C (wrOf G) x)) O.calm O.nd (hi O h6) ok (fun s H A cl fp => pg_tg (blk_ok O ok.kind s H cl A fp) h5) (fun s H A cl fp => pts_of (blk_ok O ok.kind s H cl A fp) hs h7)
      (fun s H A cl fp => (hx (blk_ok O ok.kind s H cl A fp) h8).1) (fold_no (nt h3))).imp fun σ H Q q => ?_
    rw [ownL_snd]
    exact lc_imp (fi := evIt C (wrOf G) it) (ft := evTs C (wrOf G) cs) (fx := ev C (wrOf G) x) (rng := it.isRng) (fun j hj => List.contains_iff_mem.mp (List.all_eq_true.mp h4 j hj)) q
  exact ⟨pr, fun t => pt_of pr t⟩
/-! ### a dict's keys -/
theorem pe_orK {e : Expr} {t1 t2 : TE} (h1 : PE X e t1) (h2 : PE X e t2) : PE X e (fun σ H Q => t1 σ H Q ∨ t2 σ H Q) := ⟨fun pins s σ H Q I q => q.elim (fun z => h1.run pins s σ H Q I z) fun z => h2.run pins s σ H Q I z⟩
/-- what is read stays, frozen or not -/
structure RdK (W : Addr → Prop) (H H' : Hp) : Prop where
  rd : ∀ b u, ¬ W b → (∀ o u', u ≠ .frz o u') → Rd H b u → Rd H' b u
  ext : ∀ b φ, ¬ W b → H b = some (.ext φ) → H' b = some (.ext φ)
  xd : ∀ b fs, ¬ W b → H b = some (.xd fs) → H' b = some (.xd fs)
theorem Rp.rdk {W : Addr → Prop} {H H' : Hp} (m : RdK W H H') (d : D) (v : V) (h : Rp W H v d) : Rp W H' v d := by
  refine Rp.rec (motive_1 := fun v d _ => Rp W H' v d) (motive_2 := fun vs ds _ => RpA W H' vs ds) (motive_3 := fun kvs ds _ => RpK W H' kvs ds) ?_ ?_ ?_ ?_ ?_ ?_ ?_ ?_ ?_ ?_ ?_ ?_ ?_ ?_ h
  · exact .non
  · exact fun b => .bl b
  · exact fun b => .int b
  · exact fun b => .str b
  · exact fun n l r _ q => .lst n l (m.rd _ _ n (fun _ _ z => nomatch z) r) q
  · exact fun n l r _ q => .tup n l (m.rd _ _ n (fun _ _ z => nomatch z) r) q
  · exact fun n l r _ q => .dct n l (m.rd _ _ n (fun _ _ z => nomatch z) r) q
  · exact fun e => .fn e
  · exact fun e => .cls e
  · exact fun n n2 e c e2 _ q => .exc n n2 (m.ext _ _ n e) c (m.xd _ _ n2 e2) q
  · exact .nil
  · exact fun _ _ q1 q2 => .cons q1 q2
  · exact .nil
  · exact fun _ _ q1 q2 => .cons q1 q2
theorem RpA.rdk {W : Addr → Prop} {H H' : Hp} (m : RdK W H H') : ∀ (ds : List D) (vs : List V), RpA W H vs ds → RpA W H' vs ds
  | [], _, h => by cases h; exact .nil
  | d :: ds, _, h => by
    cases h with
    | cons h1 h2 => exact .cons (Rp.rdk m d _ h1) (RpA.rdk m ds _ h2)
theorem RpK.rdk {W : Addr → Prop} {H H' : Hp} (m : RdK W H H') : ∀ (ds : List (D × D)) (vs : List (Key × V)), RpK W H vs ds → RpK W H' vs ds
  | [], _, h => by cases h; exact .nil
  | (kd, d) :: ds, _, h => by
    cases h with
    | cons h1 h2 => exact .cons (Rp.rdk m d _ h1) (RpK.rdk m ds _ h2)
theorem Own.rdk {W : Addr → Prop} {H H' : Hp} (m : RdK W H H') {a : Addr} (ka : ∀ x, H a = some x → H' a = some x) : ∀ {d : D}, Own W H a d → Own W H' a d
  | .list _, ⟨xs, e, l, q⟩ => ⟨xs, ka _ e, l, RpA.rdk m _ _ q⟩
  | .dict _, ⟨xs, e, l, q⟩ => ⟨xs, ka _ e, l, RpK.rdk m _ _ q⟩
theorem eok_rdk {W : Addr → Prop} {σ : L2.St} {g : Gv} {H H' : Hp} (O : EOk W H σ g) (m : RdK W H H') (k : ∀ b x, W b → H b = some x → H' b = some x) : EOk W H' σ g where
  len := O.len
  wok := fun b w => let ⟨o, e⟩ := O.wok b w; ⟨o, k b o w e⟩
  sh := fun i d e => let ⟨v, e', r⟩ := O.sh i d e; ⟨v, e', Rp.rdk m d v r⟩
  hd := fun i s d e h => let ⟨a, q, w, o⟩ := O.hd i s d e h; ⟨a, q, w, Own.rdk m (fun x e => k a x w e) o⟩
  inj := O.inj
/-- a dict at a is locked -/
theorem rdk_lock {W : Addr → Prop} {H : Hp} {a : Addr} {od : Obj} {kvs : List (Key × V)} (h : H a = some (.dK kvs)) : RdK W H (upd H a (.frz od (.dK kvs))) := by
  refine ⟨fun b v _ nf r => ?_, fun b φ _ e => ?_, fun b fs _ e => ?_⟩
  rotate_left
  · rw [upd_ne (fun z => by subst z; rw [h] at e; cases e)]; exact e
  · rw [upd_ne (fun z => by subst z; rw [h] at e; cases e)]; exact e
  by_cases z : b = a
  · subst z
    rcases r with r | ⟨o, r⟩
    · rw [h] at r
      cases r
      exact .inr ⟨od, upd_same⟩
    · rw [h] at r
      cases r
  · rcases r with r | ⟨o, r⟩
    · exact .inl (by rw [upd_ne z]; exact r)
    · exact .inr ⟨o, by rw [upd_ne z]; exact r⟩
theorem rdk_free {W : Addr → Prop} {H : Hp} {a : Addr} {od : Obj} {u : HO} (h : H a = some (.frz od u)) : RdK W H (upd H a u) := by
  refine ⟨fun b v _ nf r => ?_, fun b φ _ e => ?_, fun b fs _ e => ?_⟩
  rotate_left
  · rw [upd_ne (fun z => by subst z; rw [h] at e; cases e)]; exact e
  · rw [upd_ne (fun z => by subst z; rw [h] at e; cases e)]; exact e
  by_cases z : b = a
  · subst z
    rcases r with r | ⟨o, r⟩
    · rw [h] at r
      cases r
      exact (nf _ _ rfl).elim
    · rw [h] at r
      cases r
      exact .inl upd_same
  · rcases r with r | ⟨o, r⟩
    · exact .inl (by rw [upd_ne z]; exact r)
    · exact .inr ⟨o, by rw [upd_ne z]; exact r⟩
/-- the comprehension's keys, by the language -/
def keysOf (i : Nat) (g : Gv) : Rs (List D × List Nat) :=
  match shDict g i with
  | none => .bad
  | some ds => .ok (ds.map (·.1), []) g
theorem lcK_keys {vs : List Nat} {tg : Tg} {i : Nat} {x : E} {g : Gv} : ev C (wrOf G) (.lcK vs tg i x) g = (keysOf i g).bind fun p g => finLc vs tg false (fun g => .ok true g) (ev C (wrOf G) x) p g := by
  show (match shDict g i with | none => Rs.bad | some ds => finLc vs tg false (fun g => .ok true g) (ev C (wrOf G) x) (ds.map (fun x : D × D => x.1), []) g) = _
  unfold keysOf
  cases shDict g i <;> rfl
def FrzAt (i : Nat) (σ : L2.St) (H : Hp) : Prop := ∃ a o kvs, σ[i]? = some (some (V.ref a)) ∧ H a = some (HO.frz o (.dK kvs))
def wiK (T : Th) (i : Nat) : TI := fun σ H R => FrzAt i σ H ∧ tIt T false (keysOf i) σ H R
theorem shDict_at {g : Gv} {i : Nat} {ds : List (D × D)} (h : shDict g i = some ds) : g[i]? = some (.sh (.dict ds)) := by
  unfold shDict at h
  split at h
  · rename_i ds0 e
    by_cases ok : okK ds0 = true
    · rw [if_pos ok] at h; cases h; exact e
    · rw [if_neg ok] at h; cases h
  · cases h
theorem shDict_ok {g : Gv} {i : Nat} {ds : List (D × D)} (h : shDict g i = some ds) : okK ds = true := by
  unfold shDict at h
  split at h
  · rename_i ds0 e
    by_cases ok : okK ds0 = true
    · rw [if_pos ok] at h; cases h; exact ok
    · rw [if_neg ok] at h; cases h
  · cases h
theorem wiK_imp {i : Nat} {σ : L2.St} {H : Hp} {R : L2.It → Hp → Prop} (h : wiK T i σ H R) : iKeys (tVar i) σ H R := by
  obtain ⟨⟨a, o, kvs, es, eh⟩, W, g, O, h⟩ := h
  refine ⟨.ref a, es, a, o, rfl, .inl ⟨kvs, eh, ?_⟩⟩
  have h' := h
  unfold keysOf at h'
  cases e : shDict g i with
  | none => rw [e] at h'; exact h'.elim
  | some ds =>
    rw [e] at h'
    have h2 := h' H W Stp.refl O
    obtain ⟨v, ev, rv⟩ := O.sh i _ (shDict_at e)
    rw [es] at ev
    cases ev
    have okd := shDict_ok e
    cases rv with
    | fn _ => cases okd
    | cls _ => cases okd
    | exc _ _ _ _ _ _ => cases okd
    | dct n l r q =>
      rcases r with r | ⟨o', r⟩
      · rw [eh] at r; cases r
      · rw [eh] at r
        cases r
        exact h2 (by simp [LockOk]) (fun _ => by rw [List.length_map, ← rpK_len q]; exact l) _ (feeds_keys eh (fun m => n (O.mutW (MutA.held (lockL_mut [] m)))) q)
theorem arm_lcK {vs : List Nat} {tg : Tg} {i : Nat} {x : E} (hx : SE G C k x) : SE G C k (.lcK vs tg i x) := by
  intro T B X ast O h
  cases ast <;> first | (cases h; done) | skip
  rename_i elt gens scope p
  rcases gens with _ | ⟨⟨t, it, ifs, z⟩, gens⟩ <;> first | (cases h; done) | skip
  cases it <;> first | (cases h; done) | skip
  rename_i y py
  cases ifs <;> first | (cases h; done) | skip
  cases gens <;> first | (cases h; done) | skip
  obtain ⟨h, h8⟩ := and2 h
  obtain ⟨h, h6⟩ := and2 h
  obtain ⟨h, h5⟩ := and2 h
  obtain ⟨h, h4⟩ := and2 h
  obtain ⟨h1, h2⟩ := and2 h
  have e := dec h1
  subst e
  have ok := blk_of O h2
  have base : PE X (.ListComp elt [⟨t, .Name y py, [], 0⟩] scope p) (tLc (wiK T i) (tgR X.K tg) (tTb (T0 T) (fun g => .ok true g)) (tI (T0 T) (ev C (wrOf G) x)) vs) := by
    have b := pe_lc (pos := p) (g := tgR X.K tg) (tt := tTb (T0 T) (fun g => .ok true g)) (te := tI (T0 T) (ev C (wrOf G) x)) O.calm O.nd ((pi_keys (tg := t) (O.var (pos := py) h6)).imp fun σ H R q => wiK_imp (T := T) q) ok (fun s H A cl fp => pg_tg (blk_ok O ok.kind s H cl A fp) h5)
      (fun s H A cl fp => ⟨fun pins s σ H Q I ⟨W, g, O, q⟩ => pts_nil.run pins s σ H Q I (q H W Stp.refl O)⟩) (fun s H A cl fp => (hx (blk_ok O ok.kind s H cl A fp) h8).1)
    rw [ownL_snd] at b
    exact b
  have toLc : ∀ {σ : L2.St} {H : Hp} {Q : VK}, FrzAt i σ H → tI T (ev C (wrOf G) (.lcK vs tg i x)) σ H Q → tLc (wiK T i) (tgR X.K tg) (tTb (T0 T) (fun g => .ok true g)) (tI (T0 T) (ev C (wrOf G) x)) vs σ H Q := fun {σ H Q} fz q => by
    have q' : tI T (fun g => (keysOf i g).bind fun p g => finLc vs tg false (fun g => .ok true g) (ev C (wrOf G) x) p g) σ H Q := by
      obtain ⟨W, g, O, q⟩ := q
      rw [lcK_keys] at q
      exact ⟨W, g, O, q⟩
    exact ⟨fz, lc_imp (fi := keysOf i) (ft := fun g => .ok true g) (fx := ev C (wrOf G) x) (rng := false) (fun j hj => List.contains_iff_mem.mp (List.all_eq_true.mp h4 j hj)) q'⟩
  have pr : PE X (.ListComp elt [⟨t, .Name y py, [], 0⟩] scope p) (tI T (ev C (wrOf G) (.lcK vs tg i x))) := by
    refine (pe_orK (pe_lock base) base).imp fun σ H Q q => ?_
    obtain ⟨W, g, OK, q⟩ := id q
    have q0 := q
    rw [lcK_keys] at q
    unfold keysOf at q
    cases e : shDict g i with
    | none => rw [e] at q; exact q.elim
    | some ds =>
      rw [e] at q
      have q : Pst T W σ g H (fun o g' W' H' => ∀ v, ORp σ g H W' g' H' v o → Q v H') (finLc vs tg false (fun g => .ok true g) (ev C (wrOf G) x) (ds.map (·.1), []) g) := q
      obtain ⟨v, es, rv⟩ := OK.sh i _ (shDict_at e)
      have okd := shDict_ok e
      cases rv with
      | fn _ => cases okd
      | cls _ => cases okd
      | exc _ _ _ _ _ _ => cases okd
      | @dct a kvs _ n l r qa =>
        rcases r with r | ⟨o, r⟩
        · refine .inl ⟨a, _, r, trivial, fun od => toLc ⟨a, od, kvs, es, upd_same⟩ ⟨W, g, eok_rdk OK (rdk_lock r) (fun b x w eb => by rw [upd_ne (fun z => n (by rw [← z]; exact w))]; exact eb), ?_⟩⟩
          rw [lcK_keys]
          unfold keysOf
          rw [e]
          show Pst T W σ g _ _ (finLc vs tg false (fun g => .ok true g) (ev C (wrOf G) x) (ds.map (·.1), []) g)
          obtain ⟨_, dsF, gF, _, hfin⟩ := finLc_ok q.nb
          rw [hfin] at q ⊢
          intro H' W' s' G' v rv
          have na : ¬ MutA σ g a := fun m => n (OK.mutW m.held)
          have ea : H' a = some (.frz od (.dK kvs)) := s'.keep a _ upd_same na
          have nW' : ¬ W' a := fun w => (s'.wb a w).elim n fun z => by rw [upd_same] at z; cases z
          have km : RdK W' H' (upd H' a (.dK kvs)) := rdk_free ea
          have kW : ∀ b x, W' b → H' b = some x → upd H' a (.dK kvs) b = some x := fun b x w eb => by rw [upd_ne (fun z => nW' (by rw [← z]; exact w))]; exact eb
          have back : ∀ b, upd H a (.frz od (.dK kvs)) b = none → H b = none := fun b eb => by
            by_cases z : b = a
            · rw [z, upd_same] at eb; cases eb
            · rw [upd_ne z] at eb; exact eb
          refine ⟨ea, q (upd H' a (.dK kvs)) W' ⟨fun b x eb nm => ?_, fun b eb => ?_, s'.w, fun b w => (s'.wb b w).imp id (back b), fun b m => (s'.ob b m).imp id (back b), s'.lf, s'.lb, s'.fx⟩ (eok_rdk G' km kW) v ?_⟩
          · by_cases z : b = a
            · subst z
              rw [r] at eb
              cases eb
              exact upd_same
            · rw [upd_ne z]
              exact s'.keep b x (by rw [upd_ne z]; exact eb) nm
          · by_cases z : b = a
            · rw [z, upd_same] at eb; cases eb
            · rw [upd_ne z] at eb
              exact back b (s'.there b eb)
          · obtain ⟨a', ev, w', oa, nh, f⟩ := rv
            exact ⟨a', ev, w', Own.rdk km (fun x ex => kW a' x w' ex) oa, nh, f.imp (back a') id⟩
        · exact .inr (toLc ⟨a, o, kvs, es, r⟩ ⟨W, g, OK, q0⟩)
  exact ⟨pr, fun t => pt_of pr t⟩
/-! ### {k: d} -/
def tK (d : D) : TE := fun σ H Q => ∀ v, (∀ W H, Rp W H v d) → Q v H
theorem dk_imp {kd d : D} (hk : (keyOf kd).isSome = true) {σ : L2.St} {H : Hp} {Q : VK} (h : tI T (fun g => .ok (.val (.dict [(kd, d)]) true) g) σ H Q) : tDisp [(tK kd, tK d)] σ H Q := by
  obtain ⟨W, g, O, h⟩ := h
  intro p n
  show tK kd σ _ _
  intro vk rk
  show tK d σ _ _
  intro vd rd
  obtain ⟨key, ek⟩ := Option.isSome_iff_exists.mp hk
  obtain ⟨e1, e2⟩ := keyOf_kV (.inl (rk W H)) ek
  refine ⟨upd_same, [(key, vd)], by rw [e1]; rfl, (show 1 ≤ 15 by decide), ?_⟩
  subst e2
  refine (fin_new2 O O Stp.refl h) _ _ (fun b x eb => ?_) ⟨p, rfl, n, [(key, vd)], upd_same, (show 1 ≤ sizeLine by decide), .cons (rd _ _) .nil⟩
  have z := ne_of_none eb n
  rw [upd_ne z, upd_ne z]
  exact eb
theorem arm_dk {kd d : D} : SE G C k (.dk kd d) := by
  intro T B X ast O h
  cases ast <;> first | (cases h; done) | skip
  rename_i ks vs p
  rcases ks with _ | ⟨_ | k1, _ | ⟨k2, ks⟩⟩ <;> first | (cases h; done) | (cases k1 <;> cases h; done) | skip
  cases k1 <;> first | (cases h; done) | skip
  rcases vs with _ | ⟨v1, _ | ⟨v2, vs⟩⟩ <;> first | (cases h; done) | (cases v1 <;> cases h; done) | skip
  cases v1 <;> first | (cases h; done) | skip
  rename_i c1 j1 p1 c2 j2 p2
  obtain ⟨h, h3⟩ := and2 h
  obtain ⟨h1, h2⟩ := and2 h
  have pr : PE X (.Dict [some (.Constant c1 j1 p1)] [.Constant c2 j2 p2] p) (tI T (ev C (wrOf G) (.dk kd d))) := (pe_disp (X := X) (pos := p) (pps_cons (k_pe (t := tK kd) h1 fun v r σ H Q q => q v r) (k_pe (t := tK d) h2 fun v r σ H Q q => q v r) pps_nil) rfl rfl (by simp) (by simp)).imp fun σ H Q q => dk_imp (T := T) h3 q
  exact ⟨pr, fun t => pt_of pr t⟩
theorem dx_imp {T : Th} {d : D} {f : Gv → Rs Op} {σ : L2.St} {H : Hp} {Q : VK} (h : tI T (fun g => (f g).bind fun a g => finUn (dxD d) a g) σ H Q) : tDisp [(tI T f, tK d)] σ H Q := by
  obtain ⟨W, g, O, h⟩ := h
  have h : Pst T W σ g H (fun o g' W' H' => ∀ v : V, ORp σ g H W' g' H' v o → Q v H') ((f g).bind fun a g => finUn (dxD d) a g) := h
  intro p n
  have sm : Same H (upd H p (.dK [])) := same_upd n
  have O1 := eok_more O sm n ⟨_, upd_same⟩
  have st1 := stp_more (W := W) (σ := σ) (g := g) sm n
  have nW : ¬ W p := fun w => by
    obtain ⟨_, q⟩ := O.wok p w
    rw [n] at q; cases q
  have nH : ¬ HeldA σ g p := fun z => nW (O.mutW z)
  show tI T f σ _ _
  refine ⟨more W p, g, O1, ?_⟩
  cases e : f g with
  | bad => rw [e] at h; exact h
  | ex c fs g' =>
    rw [e] at h
    exact fun cls dd H' W' s' G' xr => h cls dd H' W' (st1.trans O.wok s') G' xr
  | ok a g' =>
    rw [e] at h
    intro H2 W2 s2 G2 v r
    have h : Pst T W σ g H (fun o g' W' H' => ∀ v : V, ORp σ g H W' g' H' v o → Q v H') (finUn (dxD d) a g') := h
    obtain ⟨kd, r', e1, e2, e3⟩ := finUn_ok (op := dxD d) (a := a) (g := g') (fun z => by
      rw [z] at h
      exact h)
    have e2 : (if (keyOf kd).isSome = true then some (PyData.dict [(kd, d)], true) else none) = some r' := e2
    by_cases c : (keyOf kd).isSome = true
    · rw [if_pos c] at e2
      cases e2
      obtain ⟨key, ek⟩ := Option.isSome_iff_exists.mp c
      obtain ⟨k1, k2⟩ := keyOf_kV (r.opd.rb G2 e1) ek
      subst k2
      have nM : ¬ MutA σ g p := fun m => nH m.held
      have hp : H2 p = some (.dK []) := s2.keep p _ upd_same nM
      have wp : W2 p := s2.w p (.inr rfl) nM
      have nH2 : ¬ HeldA σ g' p := fun z => by
        rcases s2.held z with y | y
        · exact nH y
        · rw [upd_same] at y; cases y
      show tK d σ _ _
      intro vd rd
      refine ⟨hp, [(key, vd)], by rw [k1]; rfl, (show 1 ≤ 15 by decide), ?_⟩
      rw [e3] at h
      have off : ∀ b x, H2 b = some x → b ≠ p → upd H2 p (.dK (mergeK [] [(key, vd)])) b = some x := fun b x eb nb => by rw [upd_ne nb]; exact eb
      have back : ∀ b, upd H2 p (.dK (mergeK [] [(key, vd)])) b = none → H2 b = none := fun b eb => by
        by_cases z : b = p
        · rw [z, upd_same] at eb; cases eb
        · rw [upd_ne z] at eb; exact eb
      have G3 : EOk W2 (upd H2 p (.dK (mergeK [] [(key, vd)]))) σ g' := {
        len := G2.len
        wok := fun b w => by
          by_cases z : b = p
          · rw [z]; exact ⟨_, upd_same⟩
          · rw [upd_ne z]; exact G2.wok b w
        sh := fun j d' e => by
          obtain ⟨u, eu, ru⟩ := G2.sh j d' e
          exact ⟨u, eu, Rp.mono (fun b x eb nb => off b x eb fun z => nb (by rw [z]; exact wp)) (fun b w => .inl w) d' u ru⟩
        hd := fun j u d' e hd => by
          obtain ⟨b, hb, wb, ob⟩ := G2.hd j u d' e hd
          exact ⟨b, hb, wb, Own.mono (fun c x ec nc => off c x ec fun z => nc (by rw [z]; exact wp)) (fun b w => .inl w) (fun x ex => off b x ex fun z => nH2 (by rw [← z]; exact ⟨j, u, d', e, hd, hb⟩)) ob⟩
        inj := G2.inj }
      have s02 : Stp W σ g H W2 σ g' H2 := st1.trans O.wok s2
      have s3 : Stp W σ g H W2 σ g' (upd H2 p (.dK (mergeK [] [(key, vd)]))) := ⟨fun b x eb nm => off b x (s02.keep b x eb nm) (ne_of_none eb n), fun b eb => s02.there b (back b eb), s02.w, s02.wb, s02.ob, s02.lf, s02.lb, s02.fx⟩
      refine h _ _ s3 G3 _ ⟨p, rfl, wp, ⟨[(key, vd)], upd_same, (show 1 ≤ sizeLine by decide), .cons (rd _ _) .nil⟩, nH2, .inl n⟩
    · rw [if_neg c] at e2; cases e2
theorem arm_dx {x : E} {d : D} (hx : SE G C k x) : SE G C k (.dx x d) := by
  intro T B X ast O h
  cases ast <;> first | (cases h; done) | skip
  rename_i ks vs p
  rcases ks with _ | ⟨_ | k1, _ | ⟨k2, ks⟩⟩ <;> first | (cases h; done) | skip
  rcases vs with _ | ⟨v1, _ | ⟨v2, vs⟩⟩ <;> first | (cases h; done) | (cases v1 <;> cases h; done) | skip
  cases v1 <;> first | (cases h; done) | skip
  rename_i c2 j2 p2
  obtain ⟨h1, h2⟩ := and2 h
  have pr : PE X (.Dict [some k1] [.Constant c2 j2 p2] p) (tI T (ev C (wrOf G) (.dx x d))) := (pe_disp (X := X) (pos := p) (pps_cons (hx O h1).1 (k_pe (t := tK d) h2 fun v r σ H Q q => q v r) pps_nil) rfl rfl (by simp) (by simp)).imp fun σ H Q q => dx_imp (T := T) (f := ev C (wrOf G) x) q
  exact ⟨pr, fun t => pt_of pr t⟩
theorem arm_nope : SE G C k .nope := fun _ _ => ⟨⟨fun _ _ _ _ _ _ ⟨_, _, _, h⟩ => h.elim⟩, fun _ => ⟨fun _ _ _ _ _ _ ⟨_, _, _, h⟩ => h.elim⟩⟩
/-! ### what is walked -/
theorem arm_seq {x : E} (hx : SE G C k x) : SIt G C k (.seq x) := by
  intro T B X tg a O h
  obtain ⟨h1, h2⟩ := and2 h
  exact pi_seqI (hx O h2).1
theorem arm_rng1 {x : E} (hx : SE G C k x) : SIt G C k (.rng1 x) := by
  intro T B X tg a O h
  cases a <;> first | (cases h; done) | skip
  rename_i fn as kws p
  cases fn <;> first | (cases h; done) | skip
  rename_i y q
  rcases as with _ | ⟨a, _ | ⟨b, as⟩⟩ <;> cases kws <;> first | (cases h; done) | skip
  obtain ⟨h, h4⟩ := and2 h
  obtain ⟨h, h3⟩ := and2 h
  obtain ⟨h1, h2⟩ := and2 h
  have e := dec h1
  subst e
  exact (pi_range1 (O.gl h2).1 (O.blt _ rng_in) (pa_cons' (hx O h4).1 (nt h3) pa_nil) (star_cons (nt h3) _ _)).imp fun _ _ _ q => r1_imp (f := ev C (wrOf G) x) q
theorem arm_rng2 {x y : E} (hx : SE G C k x) (hy : SE G C k y) : SIt G C k (.rng2 x y) := by
  intro T B X tg a O h
  cases a <;> first | (cases h; done) | skip
  rename_i fn as kws p
  cases fn <;> first | (cases h; done) | skip
  rename_i z q
  rcases as with _ | ⟨a, _ | ⟨b, _ | ⟨c, as⟩⟩⟩ <;> cases kws <;> first | (cases h; done) | skip
  obtain ⟨h, h6⟩ := and2 h
  obtain ⟨h, h5⟩ := and2 h
  obtain ⟨h, h4⟩ := and2 h
  obtain ⟨h, h3⟩ := and2 h
  obtain ⟨h1, h2⟩ := and2 h
  have e := dec h1
  subst e
  refine (pi_range2 (O.gl h2).1 (O.blt _ rng_in) (pa_cons' (hx O h5).1 (nt h3) (pa_cons' (hy O h6).1 (nt h4) pa_nil)) ?_ (star_cons (nt h4) _ _)).imp fun _ _ _ q => r2_imp (fa := ev C (wrOf G) x) (fb := ev C (wrOf G) y) q
  rw [star_cons (nt h3), star_cons (nt h4)]
  rfl
theorem arm_rng3 {x y z : E} (hx : SE G C k x) (hy : SE G C k y) (hz : SE G C k z) : SIt G C k (.rng3 x y z) := by
  intro T B X tg a O h
  cases a <;> first | (cases h; done) | skip
  rename_i fn as kws p
  cases fn <;> first | (cases h; done) | skip
  rename_i f q
  rcases as with _ | ⟨a, _ | ⟨b, _ | ⟨c, _ | ⟨d, as⟩⟩⟩⟩ <;> cases kws <;> first | (cases h; done) | skip
  obtain ⟨h, h8⟩ := and2 h
  obtain ⟨h, h7⟩ := and2 h
  obtain ⟨h, h6⟩ := and2 h
  obtain ⟨h, h5⟩ := and2 h
  obtain ⟨h, h4⟩ := and2 h
  obtain ⟨h, h3⟩ := and2 h
  obtain ⟨h1, h2⟩ := and2 h
  have e := dec h1
  subst e
  refine (pi_range3 (O.gl h2).1 (O.blt _ rng_in) (pa_cons' (hx O h6).1 (nt h3) (pa_cons' (hy O h7).1 (nt h4) (pa_cons' (hz O h8).1 (nt h5) pa_nil))) ?_ ?_).imp fun _ _ _ q => r3_imp (fa := ev C (wrOf G) x) (fb := ev C (wrOf G) y) (fc := ev C (wrOf G) z) q
  · rw [star_cons (nt h3), star_cons (nt h4), star_cons (nt h5)]
  · rw [star_cons (nt h4), star_cons (nt h5)]
    rfl
theorem arm_zip {x y : E} (hx : SE G C k x) (hy : SE G C k y) : SIt G C k (.zip x y) := by
  intro T B X tg a O h
  cases tg <;> first | (cases h; done) | skip
  cases a <;> first | (cases h; done) | skip
  rename_i fn as kws p
  cases fn <;> first | (cases h; done) | skip
  rename_i z q
  rcases as with _ | ⟨a, _ | ⟨b, _ | ⟨c, as⟩⟩⟩ <;> cases kws <;> first | (cases h; done) | skip
  obtain ⟨h, h6⟩ := and2 h
  obtain ⟨h, h5⟩ := and2 h
  obtain ⟨h, h4⟩ := and2 h
  obtain ⟨h, h3⟩ := and2 h
  obtain ⟨h1, h2⟩ := and2 h
  have e := dec h1
  subst e
  refine (RZ.pi_zipA (O.gl h2).1 (O.blt _ zip_in) (pa_cons' (hx O h5).1 (nt h3) (pa_cons' (hy O h6).1 (nt h4) pa_nil)) (star_cons (nt h3) _ _) ?_).imp fun _ _ _ q => zip_imp (fa := ev C (wrOf G) x) (fb := ev C (wrOf G) y) q
  rw [star_cons (nt h4)]
  rfl
theorem arm_enum {x : E} (hx : SE G C k x) : SIt G C k (.enum x) := by
  intro T B X tg a O h
  cases tg <;> first | (cases h; done) | skip
  cases a <;> first | (cases h; done) | skip
  rename_i fn as kws p
  cases fn <;> first | (cases h; done) | skip
  rename_i z q
  rcases as with _ | ⟨a, _ | ⟨b, as⟩⟩ <;> cases kws <;> first | (cases h; done) | skip
  obtain ⟨h, h4⟩ := and2 h
  obtain ⟨h, h3⟩ := and2 h
  obtain ⟨h1, h2⟩ := and2 h
  have e := dec h1
  subst e
  exact (PI.or (pi_enum (O.gl h2).1 (O.blt _ enum_in) (pa_cons' (hx O h4).1 (nt h3) pa_nil) (star_cons (nt h3) _ _)) (pi_enumS (O.gl h2).1 (O.blt _ enum_in) (pa_cons' (hx O h4).1 (nt h3) pa_nil) (star_cons (nt h3) _ _))).imp fun _ _ _ q => enum_imp (f := ev C (wrOf G) x) q
end
section
variable {G : List Fn} {C : Calls} {k : Nat}
mutual
theorem sE : ∀ e : E, SE G C k e
  | .v _ => arm_v
  | .mv _ => arm_mv
  | .b _ => arm_b
  | .k _ => arm_k
  | .bin _ x y => arm_bin (sE x) (sE y)
  | .neg x => arm_neg (sE x)
  | .cmp _ x y => arm_cmp (sE x) (sE y)
  | .cmp2 _ _ x y z => arm_cmp2 (sE x) (sE y) (sE z)
  | .is x _ _ => arm_is (sE x)
  | .and es => arm_and (sEs es)
  | .or es => arm_or (sEs es)
  | .not x => arm_not (sE x)
  | .ife c x y => arm_ife (sE c) (sE x) (sE y)
  | .tup es => arm_tup (sEs es)
  | .lst es => arm_lst (sEs es)
  | .dct => arm_dct
  | .idx x y => arm_idx (sE x) (sE y)
  | .sl x lo hi => arm_sl (sE x) (sO lo) (sO hi)
  | .call _ es => arm_call (sEs es)
  | .callk _ es ks => arm_callk (sEs es) (sEs ks)
  | .bi _ es => arm_bi (sEs es)
  | .me _ x => arm_me (sE x)
  | .isi x _ => arm_isi (sE x)
  | .isT x _ => arm_isT (sE x)
  | .g _ _ => arm_g
  | .rev x => arm_rev (sE x)
  | .join o x => arm_join (sE o) (sE x)
  | .m1 _ o x => arm_m1 (sE o) (sE x)
  | .bor _ x => arm_bor (sE x)
  | .callp _ es ks _ _ => arm_callp (sEs es) (sEs ks)
  | .lc _ _ it cs x => arm_lc (sIt it) (sEs cs) (sE x)
  | .app _ x => arm_app (sE x)
  | .lrg1 x => arm_lrg1 (sE x)
  | .lrg2 x y => arm_lrg2 (sE x) (sE y)
  | .lenr x => arm_lenr (sE x)
  | .dx x _ => arm_dx (sE x)
  | .get1 o x => arm_get1 (sE o) (sE x)
  | .get2 o x y => arm_get2 (sE o) (sE x) (sE y)
  | .pop _ => arm_pop
  | .popk _ x => arm_popk (sE x)
  | .lcK _ _ _ x => arm_lcK (sE x)
  | .dk _ _ => arm_dk
  | .fnd o x => arm_fnd (sE o) (sE x)
  | .sset x => arm_sset (sE x)
  | .fv _ => arm_fv
  | .callv _ es => arm_callv (sEs es)
  | .isC x _ _ => arm_isC (sE x)
  | .isV x => arm_isV (sE x)
  | .fld x => arm_fld (sE x)
  | .nope => arm_nope
theorem sO : ∀ e : Eo, SO G C k e
  | .no => arm_no
  | .so x => arm_so (sE x)
theorem sEs : ∀ es : Es, AllSE G C k es
  | .nil => trivial
  | .cons x r => ⟨sE x, sEs r⟩
theorem sIt : ∀ it : It, SIt G C k it
  | .seq x => arm_seq (sE x)
  | .rng1 x => arm_rng1 (sE x)
  | .rng2 x y => arm_rng2 (sE x) (sE y)
  | .rng3 x y z => arm_rng3 (sE x) (sE y) (sE z)
  | .zip x y => arm_zip (sE x) (sE y)
  | .enum x => arm_enum (sE x)
end
end
end TL
/-! TL23: statements of the language held against the heap. -/
namespace TL
open PySem PySem.Spec PyProof.Rows L2
variable [Plc]

def PsS {α : Type} (T : Th) (W : Addr → Prop) (σ : L2.St) (g : Gv) (H : Hp) (R : α → Gv → (Addr → Prop) → L2.St → Hp → Prop) (r : Rs α) : Prop :=
  match r with
  | .bad => False
  | .ex c fs g' => ∀ cls d σ' H' W', Stp W σ g H W' σ' g' H' → EOk W' H' σ' g' → T.xr W' H' c fs cls d → T.wx cls d σ' H'
  | .ok a g' => ∀ σ' H' W', Stp W σ g H W' σ' g' H' → EOk W' H' σ' g' → R a g' W' σ' H'
/-- a returned value -/
def RetR (σ : L2.St) (g : Gv) (H : Hp) (W' : Addr → Prop) (σ' : L2.St) (g' : Gv) (H' : Hp) (v : V) (d : D) (own : Bool) : Prop :=
  match own with
  | false => Rp W' H' v d
  | true => ∃ a, v = .ref a ∧ W' a ∧ Own W' H' a d ∧ ¬ HeldA σ' g' a ∧ (H a = none ∨ MutA σ g a)
def FlR (σ : L2.St) (g : Gv) (H : Hp) (D : Ends) (W' : Addr → Prop) (σ' : L2.St) (g' : Gv) (H' : Hp) : Fl → Prop
  | .next => D.nx σ' H'
  | .brk => D.bk σ' H'
  | .cont => D.ct σ' H'
  | .ret d own => ∀ v, RetR σ g H W' σ' g' H' v d own → D.rt v H'
def tS (T : Th) (f : Gv → Rs Fl) : TS := fun D σ H => ∃ W g, EOk W H σ g ∧ PsS T W σ g H (fun fl g' W' σ' H' => FlR σ g H D W' σ' g' H' fl) (f g)

section
variable {α β : Type} {T : Th} {W W1 : Addr → Prop} {σ σ1 : L2.St} {g g1 : Gv} {H H1 : Hp}
theorem PsS.mono {R R' : α → Gv → (Addr → Prop) → L2.St → Hp → Prop} {r : Rs α} (h : PsS T W σ g H R r) (m : ∀ a g' W' σ' H', r = .ok a g' → Stp W σ g H W' σ' g' H' → EOk W' H' σ' g' → R a g' W' σ' H' → R' a g' W' σ' H') : PsS T W σ g H R' r := by
  cases r with
  | bad => exact h
  | ex c fs g' => exact h
  | ok a g' => exact fun σ' H' W' s G => m a g' W' σ' H' rfl s G (h σ' H' W' s G)
theorem PsS.nb {R : α → Gv → (Addr → Prop) → L2.St → Hp → Prop} {r : Rs α} (h : PsS T W σ g H R r) : r ≠ .bad := fun z => by subst z; exact h
/-- from a later moment -/
theorem PsS.from {R : α → Gv → (Addr → Prop) → L2.St → Hp → Prop} {r : Rs α} (wok : ∀ b, W b → ∃ o, H b = some o) (h : PsS T W σ g H R r) (s : Stp W σ g H W1 σ1 g1 H1) : PsS T W1 σ1 g1 H1 R r := by
  cases r with
  | bad => exact h
  | ex c fs g' => exact fun cls d σ' H' W' s' G x => h cls d σ' H' W' (s.trans wok s') G x
  | ok a g' => exact fun σ' H' W' s' G => h σ' H' W' (s.trans wok s') G
theorem PsS.bind {R : β → Gv → (Addr → Prop) → L2.St → Hp → Prop} {r : Rs α} {f : α → Gv → Rs β} (wok : ∀ b, W b → ∃ o, H b = some o) (h : PsS T W σ g H R (r.bind f)) :
    PsS T W σ g H (fun a g1 W1 σ1 H1 => PsS T W1 σ1 g1 H1 R (f a g1)) r := by
  cases r with
  | bad => exact h
  | ex c fs g' => exact h
  | ok a g' => exact fun σ' H' W' s G => PsS.from (r := f a g') wok h s
/-- an expression's part -/
theorem PsS.expr {R : β → Gv → (Addr → Prop) → L2.St → Hp → Prop} {r : Rs α} {f : α → Gv → Rs β} (h : PsS T W σ g H R (r.bind f)) :
    Pst T W σ g H (fun a g1 W1 H1 => PsS T W σ g H R (f a g1)) r := by
  cases r with
  | bad => exact h
  | ex c fs g' => exact fun cls d H' W' s G x => h cls d σ H' W' s G x
  | ok a g' => exact fun _ _ _ _ => h
theorem RetR.back {W' : Addr → Prop} {σ' : L2.St} {g' : Gv} {H' : Hp} {v : V} {d : D} {own : Bool} (s : Stp W σ g H W1 σ1 g1 H1) (r : RetR σ1 g1 H1 W' σ' g' H' v d own) : RetR σ g H W' σ' g' H' v d own := by
  cases own with
  | false => exact r
  | true =>
    obtain ⟨a, e, w, q, n, f⟩ := r
    exact ⟨a, e, w, q, n, f.elim (fun z => .inl (s.there a z)) fun z => (s.ob a z).elim .inr .inl⟩
theorem FlR.move {D : Ends} {W' : Addr → Prop} {σ' : L2.St} {g' : Gv} {H' : Hp} {fl : Fl} (s : Stp W σ g H W1 σ1 g1 H1) (h : FlR σ g H D W' σ' g' H' fl) : FlR σ1 g1 H1 D W' σ' g' H' fl := by
  cases fl with
  | next => exact h
  | brk => exact h
  | cont => exact h
  | ret d own => exact fun v r => h v (r.back s)
end

section
variable {T : Th} {D : Ends} {σ : L2.St} {H : Hp}
theorem skip_imp (h : tS T (fun g => .ok .next g) D σ H) : D.nx σ H := by
  obtain ⟨W, g, G, h⟩ := h
  exact h σ H W Stp.refl G
theorem brk_imp (h : tS T (fun g => .ok .brk g) D σ H) : D.bk σ H := by
  obtain ⟨W, g, G, h⟩ := h
  exact h σ H W Stp.refl G
theorem cont_imp (h : tS T (fun g => .ok .cont g) D σ H) : D.ct σ H := by
  obtain ⟨W, g, G, h⟩ := h
  exact h σ H W Stp.refl G
theorem retn_imp (h : tS T (fun g => .ok (.ret .none false) g) D σ H) : tRetN D σ H := by
  obtain ⟨W, g, G, h⟩ := h
  exact h σ H W Stp.refl G .non .non
theorem seq_stm {fa fb : Gv → Rs Fl} (h : tS T (fun g => (fa g).bind fun f g => after f g (fb g)) D σ H) : tSeq (tS T fa) (tS T fb) D σ H := by
  obtain ⟨W, g, G, h⟩ := h
  refine ⟨W, g, G, (PsS.bind G.wok h).mono fun f g1 W1 σ1 H1 _ s1 G1 h1 => ?_⟩
  cases f with
  | next => exact ⟨W1, g1, G1, h1.mono fun fl g' W' σ' H' _ s' G' q => q.move s1⟩
  | brk => exact h1 σ1 H1 W1 Stp.refl G1
  | cont => exact h1 σ1 H1 W1 Stp.refl G1
  | ret d own => exact h1 σ1 H1 W1 Stp.refl G1
theorem drop_imp {f : Gv → Rs Op} (h : tS T (fun g => (f g).bind fun _ g => .ok .next g) D σ H) : tDrop (tI T f) D σ H := by
  obtain ⟨W, g, G, h⟩ := h
  exact ⟨W, g, G, (PsS.expr h).mono fun a g1 W1 H1 _ s1 G1 h1 v _ => h1 σ H1 W1 s1 G1⟩
theorem ret_imp {f : Gv → Rs Op} (h : tS T (fun g => (f g).bind fun a g => finRet a g) D σ H) : tRet (tI T f) D σ H := by
  obtain ⟨W, g, G, h⟩ := h
  refine ⟨W, g, G, (PsS.expr h).mono fun a g1 W1 H1 _ s1 G1 h1 v r => ?_⟩
  cases a with
  | slot i => exact h1.elim
  | val d own =>
    refine h1 σ H1 W1 s1 G1 v ?_
    cases own with
    | false => exact r
    | true => exact r
theorem finSet_ok {i : Nat} {d : TL.D} {own : Bool} {g : Gv} (h : finSet i (.val d own) g ≠ .bad) : ∃ g', put g i (match own with | true => .ow d | false => .sh d) = some g' ∧ finSet i (.val d own) g = .ok .next g' := by
  cases own with
  | true =>
    have h : (match put g i (.ow d) with | some g' => Rs.ok Fl.next g' | none => .bad) ≠ .bad := h
    cases q : put g i (.ow d) with
    | none => rw [q] at h; exact absurd rfl h
    | some g' => exact ⟨g', rfl, by show (match put g i (.ow d) with | some g' => Rs.ok Fl.next g' | none => .bad) = _; rw [q]⟩
  | false =>
    have h : (match put g i (.sh d) with | some g' => Rs.ok Fl.next g' | none => .bad) ≠ .bad := h
    cases q : put g i (.sh d) with
    | none => rw [q] at h; exact absurd rfl h
    | some g' => exact ⟨g', rfl, by show (match put g i (.sh d) with | some g' => Rs.ok Fl.next g' | none => .bad) = _; rw [q]⟩
theorem set_imp {f : Gv → Rs Op} {i : Nat} (h : tS T (fun g => (f g).bind fun a g => finSet i a g) D σ H) : tAsg (tI T f) (gName i) D σ H := by
  obtain ⟨W, g, G, h⟩ := h
  refine ⟨W, g, G, (PsS.expr h).mono fun a g1 W1 H1 _ s1 G1 h1 v r => ?_⟩
  cases a with
  | slot i => exact h1.elim
  | val d own =>
    obtain ⟨g', q, e⟩ := finSet_ok h1.nb
    rw [e] at h1
    cases own with
    | false =>
      obtain ⟨G2, s2⟩ := put_stp (v := v) G G1 s1 q (.inl ⟨d, rfl, r⟩)
      exact h1 _ H1 W1 s2 G2
    | true =>
      obtain ⟨a, e, w, o, n, f⟩ := r
      obtain ⟨G2, s2⟩ := put_stp (v := v) G G1 s1 q (.inr ⟨d, a, rfl, e, w, o, n, f⟩)
      exact h1 _ H1 W1 s2 G2
theorem ife_stm {fc : Gv → Rs Op} {fa fb : Gv → Rs Fl} (h : tS T (fun g => (fc g).bind fun a g => br (tst a g) (fa g) (fb g)) D σ H) : tIfS (tT T fc) (tS T fa) (tS T fb) D σ H := by
  obtain ⟨W, g, G, h⟩ := h
  refine ⟨W, g, G, (PsS.expr h).mono fun a g1 W1 H1 _ s1 G1 h1 => ?_⟩
  unfold br at h1
  cases q : tst a g1 with
  | none => rw [q] at h1; exact h1.elim
  | some b =>
    rw [q] at h1
    cases b with
    | true => exact ⟨true, rfl, iteT ⟨W1, g1, G1, (PsS.from G.wok h1 s1).mono fun fl g' W' σ' H' _ s' G' q => q.move s1⟩⟩
    | false => exact ⟨false, rfl, iteF ⟨W1, g1, G1, (PsS.from G.wok h1 s1).mono fun fl g' W' σ' H' _ s' G' q => q.move s1⟩⟩
theorem unp_imp {K : PySem.W.Frag} {f : Gv → Rs Op} {is : List Nat} (h : tS T (fun g => (f g).bind fun a g => finUnp is a g) D σ H) : tAsg (tI T f) (tgR K (.tp is)) D σ H := by
  obtain ⟨W, g, G, h⟩ := h
  refine ⟨W, g, G, (PsS.expr h).mono fun a g1 W1 H1 _ s1 G1 h1 v r => ?_⟩
  unfold finUnp at h1
  cases q : a.res g1 with
  | none => simp only [q] at h1; exact h1.elim
  | some d =>
    simp only [q] at h1
    cases q2 : bindTg (.tp is) d g1 with
    | none => simp only [q2] at h1; exact h1.elim
    | some g' =>
      simp only [q2] at h1
      exact bind_imp G1 (r.opd.rb G1 q) (fun i e => nomatch e) q2 fun σ' G2 s2 _ => h1 σ' H1 W1 (s1.trans G.wok s2) G2
/-- a, b = x, y: what is stored -/
theorem par_imp {f : Gv → Rs (List Op)} {is : List Nat} (h : tS T (fun g => (f g).bind fun os g => finPar is os g) D σ H) : tIs T f σ H fun vs H1 => gNames is vs σ H1 D.nx := by
  obtain ⟨W, g, G, h⟩ := h
  refine ⟨W, g, G, (PsS.expr h).mono fun os g1 W1 H1 _ s1 G1 h1 vs p => ?_⟩
  unfold finPar at h1
  cases q : vals os with
  | none => simp only [q] at h1; exact h1.elim
  | some ds =>
    simp only [q] at h1
    cases q2 : puts g1 is ds with
    | none => simp only [q2] at h1; exact h1.elim
    | some g' =>
      simp only [q2] at h1
      have fr := kept_ops G G1 s1 p
      exact puts_imp is fr.1 (p.vals (fun _ z => z) q) q2 fun σ' G2 s2 _ => h1 σ' H1 _ (fr.2.trans G.wok s2) G2
/-- what stands ready to be put -/
def Rdy (W1 : Addr → Prop) (σ : L2.St) (g : Gv) (H : Hp) (σc : L2.St) (gc : Gv) (H1 : Hp) (v : V) : Op → Prop
  | .slot _ => True
  | .val d false => Rp W1 H1 v d
  | .val d true => ∃ a, v = .ref a ∧ W1 a ∧ Own W1 H1 a d ∧ ¬ HeldA σc gc a ∧ (H a = none ∨ MutA σ g a)
theorem putsO_imp {T : Th} {W1 : Addr → Prop} {σ : L2.St} {g : Gv} {H H1 : Hp} : ∀ (is : List Nat) {σc : L2.St} {gc : Gv} {vs : List V} {os : List Op} {g' : Gv} {Q : L2.St → Hp → Prop} {W : Addr → Prop}, EOk W H σ g → EOk W1 H1 σc gc → Stp W σ g H W1 σc gc H1 →
    vs.length = os.length → (∀ (i : Nat) (v : V) (o : Op), vs[i]? = some v → os[i]? = some o → Rdy W1 σ g H σc gc H1 v o) → (∀ (i j : Nat) (v u : V) (o p : Op) (a : Addr), i ≠ j → vs[i]? = some v → os[i]? = some o → vs[j]? = some u → os[j]? = some p → ownA v o a → ¬ ownA u p a) →
    putsO gc is os = some g' → (∀ σ', EOk W1 H1 σ' g' → Stp W σ g H W1 σ' g' H1 → Q σ' H1) → gNames is vs σc H1 Q
  | [], σc, gc, vs, os, g', Q, W, G0, G, s, hl, r, d, h, q => by
    cases os with
    | nil =>
      have h' : some gc = some g' := h
      cases h'
      cases vs with
      | nil => exact ⟨rfl, q σc G s⟩
      | cons _ _ => cases hl
    | cons o os => cases h
  | i :: is, σc, gc, vs, os, g', Q, W, G0, G, s, hl, r, d, h, q => by
    cases os with
    | nil => cases h
    | cons o os =>
      cases vs with
      | nil => cases hl
      | cons v vs =>
        cases o with
        | slot _ => cases h
        | val e own =>
          have r0 := r 0 v (.val e own) rfl rfl
          have step : ∀ {sl : Slot} {g2 : Gv}, put gc i sl = some g2 → ((∃ d, sl = .sh d ∧ Rp W1 H1 v d) ∨ (∃ d a, sl = .ow d ∧ v = .ref a ∧ W1 a ∧ Own W1 H1 a d ∧ ¬ HeldA σc gc a ∧ (H a = none ∨ MutA σ g a))) →
              (∀ b, HeldA (σc.set i (some v)) g2 b → HeldA σc gc b ∨ ownA v (.val e own) b) → putsO g2 is os = some g' → gNames (i :: is) (v :: vs) σc H1 Q := fun {sl g2} hp hs hh hq => by
            -- from the frame's start
            have ps : EOk W1 H1 (σc.set i (some v)) g2 ∧ Stp W σ g H W1 (σc.set i (some v)) g2 H1 := by
              exact put_stp2 G0 G s hp hs
            obtain ⟨G2, s2⟩ := ps
            refine ⟨v, vs, rfl, putsO_imp (T := T) is G0 G2 s2 (by simpa using hl) (fun j u p e1 e2 => ?_) (fun j l u w p p' a n e1 e2 e3 e4 => d (j + 1) (l + 1) u w p p' a (by omega) e1 e2 e3 e4) hq q⟩
            have rj := r (j + 1) u p e1 e2
            cases p with
            | slot _ => trivial
            | val e' own' =>
              cases own' with
              | false => exact rj
              | true =>
                obtain ⟨a, z1, z2, z3, z4, z5⟩ := rj
                refine ⟨a, z1, z2, z3, fun z => (hh a z).elim z4 fun z => ?_, z5⟩
                exact d 0 (j + 1) v u (.val e own) (.val e' true) a (by omega) rfl rfl e1 e2 z ⟨⟨e', rfl⟩, z1⟩
          cases own with
          | false =>
            have h2 : (match put gc i (.sh e) with | some g' => putsO g' is os | none => none) = some g' := h
            cases hp : put gc i (.sh e) with
            | none => rw [hp] at h2; cases h2
            | some g2 =>
              rw [hp] at h2
              refine step hp (.inl ⟨e, rfl, r0⟩) (fun b hb => ?_) h2
              obtain ⟨rfl, t, et, nl, ni⟩ := put_ok hp
              obtain ⟨j, u, d', ej, hd, ha⟩ := hb
              rcases get_set ej with ⟨rfl, es⟩ | ⟨n, ej⟩
              · subst es; cases hd
              · exact .inl ⟨j, u, d', ej, hd, (ad_set n).mp ha⟩
          | true =>
            have h2 : (match put gc i (.ow e) with | some g' => putsO g' is os | none => none) = some g' := h
            cases hp : put gc i (.ow e) with
            | none => rw [hp] at h2; cases h2
            | some g2 =>
              rw [hp] at h2
              obtain ⟨a, z1, z2, z3, z4, z5⟩ := r0
              refine step hp (.inr ⟨e, a, rfl, z1, z2, z3, z4, z5⟩) (fun b hb => ?_) h2
              obtain ⟨rfl, t, et, nl, ni⟩ := put_ok hp
              have li : i < σc.length := by
                rw [← G.len]
                exact (List.getElem?_eq_some_iff.mp et).1
              obtain ⟨j, u, d', ej, hd, ha⟩ := hb
              rcases get_set ej with ⟨rfl, es⟩ | ⟨n, ej⟩
              · have : (some (some v) : Option (Option V)) = some (some (.ref b)) := (List.getElem?_set_self li).symm.trans ha
                cases this
                exact .inr ⟨⟨e, rfl⟩, rfl⟩
              · exact .inl ⟨j, u, d', ej, hd, (ad_set n).mp ha⟩
theorem parO_imp {f : Gv → Rs (List Op)} {is : List Nat} (h : tS T (fun g => (f g).bind fun os g => finParO is os g) D σ H) : tIs T f σ H fun vs H1 => gNames is vs σ H1 D.nx := by
  obtain ⟨W, g, G, h⟩ := h
  refine ⟨W, g, G, (PsS.expr h).mono fun os g1 W1 H1 _ s1 G1 h1 vs p => ?_⟩
  unfold finParO at h1
  cases q2 : putsO g1 is os with
  | none => simp only [q2] at h1; exact h1.elim
  | some g' =>
    simp only [q2] at h1
    refine putsO_imp (T := T) is G G1 s1 p.len (fun i v o e1 e2 => ?_) (fun i j v u o p' a n e1 e2 e3 e4 w => p.dis n e1 e2 e3 e4 w) q2 fun σ' G2 s2 => h1 σ' H1 _ s2 G2
    have r := p.at e1 e2
    cases o with
    | slot _ => trivial
    | val d own =>
      cases own with
      | false => exact r
      | true => exact r
theorem parT_imp {K : PySem.W.Frag} {f : Gv → Rs (List Op)} {is : List Nat} (hl : is.length ≤ 64) (h : tS T (fun g => (f g).bind fun os g => finParO is os g) D σ H) : tAsg (tTup (tIs T f)) (tgR K (.tp is)) D σ H := by
  obtain ⟨W, g, G, h⟩ := h
  refine ⟨W, g, G, (PsS.expr h).mono fun os g1 W1 H1 _ s1 G1 h1 vs p => ?_⟩
  unfold finParO at h1
  cases q2 : putsO g1 is os with
  | none => simp only [q2] at h1; exact h1.elim
  | some g' =>
    simp only [q2] at h1
    have len : is.length = os.length := by
      have go : ∀ {is : List Nat} {os : List Op} {g g' : Gv}, putsO g is os = some g' → is.length = os.length := by
        intro is
        induction is with
        | nil =>
          intro os g g' e
          cases os with
          | nil => rfl
          | cons _ _ => cases e
        | cons i is ih =>
          intro os g g' e
          cases os with
          | nil => cases e
          | cons o os =>
            cases o with
            | slot _ => cases e
            | val d own =>
              unfold putsO at e
              split at e
              · rw [List.length_cons, List.length_cons, ih e]
              · cases e
      exact go q2
    have lv : vs.length = is.length := by rw [p.len, len]
    refine ⟨by rw [lv]; exact Nat.le_trans hl (by decide), fun a n => ?_⟩
    have sm := same_upd (o := .tup vs) n
    have G2 := eok_new G1 sm
    have s2 := s1.trans G.wok (stp_new sm)
    have p2 := p.fwd G1 (stp_new sm)
    refine .inl ⟨a, vs, rfl, .inl (.inl upd_same), lv, ?_⟩
    refine putsO_imp (T := T) is G G2 s2 p2.len (fun i v o e1 e2 => ?_) (fun i j v u o p' a n e1 e2 e3 e4 w => p2.dis n e1 e2 e3 e4 w) q2 fun σ' G3 s3 => h1 σ' _ _ s3 G3
    have r := p2.at e1 e2
    cases o with
    | slot _ => trivial
    | val d own =>
      cases own with
      | false => exact r
      | true => exact r
end
end TL
/-! TL24: stores into lists, loops. -/
namespace TL
open PySem PySem.Spec PyProof.Rows L2
variable [Plc]

section
variable {T : Th} {D : Ends} {σ : L2.St} {H : Hp}
theorem finSto_ok {i : Nat} {a b : Op} {g : Gv} (h : finSto i a b g ≠ .bad) : ∃ d own k xs j, a = .val d own ∧ b.res g = some (.int k) ∧ mutL g i = some xs ∧ L2.ixN xs.length k = some j ∧ finSto i a b g = .ok .next (setL g i (xs.set j d)) := by
  unfold finSto at h ⊢
  cases a with
  | slot _ => exact absurd rfl h
  | val d own =>
    simp only at h ⊢
    cases q : b.res g with
    | none => rw [q] at h; exact absurd rfl h
    | some e =>
      rw [q] at h
      cases e with
      | int k =>
        simp only at h ⊢
        cases q2 : mutL g i with
        | none => rw [q2] at h; exact absurd rfl h
        | some xs =>
          rw [q2] at h
          simp only at h ⊢
          cases q3 : L2.ixN xs.length k with
          | none => rw [q3] at h; exact absurd rfl h
          | some j => exact ⟨d, own, k, xs, j, rfl, rfl, rfl, q3, rfl⟩
      | _ => exact absurd rfl h
theorem PsS.expr2 {α β : Type} {W W1 : Addr → Prop} {g g1 : Gv} {H1 : Hp} {R : β → Gv → (Addr → Prop) → L2.St → Hp → Prop} {r : Rs α} {f : α → Gv → Rs β} (wok : ∀ b, W b → ∃ o, H b = some o) (h : PsS T W σ g H R (r.bind f)) (s : Stp W σ g H W1 σ g1 H1) :
    Pst T W1 σ g1 H1 (fun a g2 W2 H2 => PsS T W σ g H R (f a g2)) r := by
  cases r with
  | bad => exact h
  | ex c fs g' => exact fun cls d H' W' s' G x => h cls d σ H' W' (s.trans wok s') G x
  | ok a g' => exact fun _ _ _ _ => h
theorem sto_imp {fx fy : Gv → Rs Op} {i : Nat} (h : tS T (fun g => (fx g).bind fun a g => match mutL g i with | none => .bad | some _ => (fy g).bind fun b g => finSto i a b g) D σ H) :
    tAsg (tI T fx) (gSub (tVar i) (tI T fy) rSetL) D σ H := by
  obtain ⟨W, g, G, h⟩ := h
  refine ⟨W, g, G, (PsS.expr h).mono fun a g1 W1 H1 _ s1 G1 h1 v r => ?_⟩
  cases q : mutL g1 i with
  | none => simp only [q] at h1; exact h1.elim
  | some xs =>
    simp only [q] at h1
    obtain ⟨s, A, vs, e, m, hd, ha, wa, hA, l1, r1⟩ := mutL_at G1 q
    refine ⟨.ref A, ha, W1, g1, G1, (PsS.expr2 G.wok h1 s1).mono fun b g2 W2 H2 _ s2 G2 h2 u ru => ?_⟩
    obtain ⟨d, own, k, ys, j, rfl, e1, e2, e3, e4⟩ := finSto_ok h2.nb
    rw [e4] at h2
    obtain ⟨P, G3, s3, rv⟩ := keep_one G G2 (s1.trans G.wok s2) (r.fwd G1 s2)
    obtain ⟨s', A', us, e', m', hd', ha', wa', hA', l1', r1'⟩ := mutL_at G3 e2
    have eA := ad_inj ha' ha
    subst eA
    have e5 := (ru.opd.rb G2 e1).int
    subst e5
    obtain ⟨G4, s4⟩ := write_list (ys := ys.set j d) G3 e' m' ha' (vs := us.set j v) (by rw [List.length_set]; exact l1') (r1'.set rv j)
    refine ⟨A', us, k, j, rfl, rfl, hA', by rw [r1'.length]; exact e3, ?_⟩
    exact h2 σ _ _ (s3.trans G.wok s4) G4
theorem finStoD_ok {i : Nat} {a b : Op} {g : Gv} (h : finStoD i a b g ≠ .bad) : ∃ d own kd k xs, a = .val d own ∧ b.res g = some kd ∧ keyOf kd = some k ∧ mutDc g i = some xs ∧ xs.length < sizeLine ∧ finStoD i a b g = .ok .next (setDc g i (dputD xs k kd d)) := by
  unfold finStoD at h ⊢
  cases a with
  | slot _ => exact absurd rfl h
  | val d own =>
    simp only at h ⊢
    cases q : b.res g with
    | none => rw [q] at h; exact absurd rfl h
    | some e =>
      rw [q] at h
      simp only at h ⊢
      cases q1 : keyOf e with
      | none => rw [q1] at h; exact absurd rfl h
      | some k =>
        rw [q1] at h
        simp only at h ⊢
        cases q2 : mutDc g i with
        | none => rw [q2] at h; exact absurd rfl h
        | some xs =>
          rw [q2] at h
          simp only at h ⊢
          by_cases l : xs.length < sizeLine
          · exact ⟨d, own, e, k, xs, rfl, rfl, q1, rfl, l, by rw [if_pos l]⟩
          · rw [if_neg l] at h; exact absurd rfl h
theorem stoD_imp {fx fy : Gv → Rs Op} {i : Nat} (h : tS T (fun g => (fx g).bind fun a g => match mutDc g i with | none => .bad | some _ => (fy g).bind fun b g => finStoD i a b g) D σ H) :
    tAsg (tI T fx) (gSub (tVar i) (tI T fy) rSetD) D σ H := by
  obtain ⟨W, g, G, h⟩ := h
  refine ⟨W, g, G, (PsS.expr h).mono fun a g1 W1 H1 _ s1 G1 h1 v r => ?_⟩
  cases q : mutDc g1 i with
  | none => simp only [q] at h1; exact h1.elim
  | some xs =>
    simp only [q] at h1
    obtain ⟨s, A, vs, e, m, hd, ha, wa, hA, l1, r1⟩ := mutD_at G1 q
    refine ⟨.ref A, ha, W1, g1, G1, (PsS.expr2 G.wok h1 s1).mono fun b g2 W2 H2 _ s2 G2 h2 u ru => ?_⟩
    obtain ⟨d, own, kd, k, ys, rfl, e1, e2, e3, e4, e5⟩ := finStoD_ok h2.nb
    rw [e5] at h2
    obtain ⟨P, G3, s3, rv⟩ := keep_one G G2 (s1.trans G.wok s2) (r.fwd G1 s2)
    obtain ⟨s', A', us, e', m', hd', ha', wa', hA', l1', r1'⟩ := mutD_at G3 e3
    have eA := ad_inj ha' ha
    subst eA
    obtain ⟨eu, ekd⟩ := keyOf_kV (ru.opd.rb G2 e1) e2
    subst eu
    subst ekd
    have lu : us.length < sizeLine := by rw [rpK_len r1']; exact e4
    have rp := rpK_put (k := k) rv r1'
    obtain ⟨G4, s4⟩ := write_dict (ys := dputD ys k (kD k) d) G3 e' m' ha' (vs := putK us k v) (by have := length_putK us k v; omega) rp
    refine ⟨A', _, rfl, DPut.k hA' lu, ?_⟩
    exact h2 σ _ _ (s3.trans G.wok s4) G4
/-- a shared value stored into a list, and what follows -/
theorem stoV_imp {rest : Gv → Rs Fl} {fy : Gv → Rs Op} {i : Nat} {d : TL.D} {v : V} {W1 : Addr → Prop} {g1 : Gv} {R : Fl → Gv → (Addr → Prop) → L2.St → Hp → Prop} {Q : L2.St → Hp → Prop} (G1 : EOk W1 H σ g1) (rv : Rp W1 H v d)
    (h : PsS T W1 σ g1 H R (match mutL g1 i with | none => .bad | some _ => (fy g1).bind fun b g => (finSto i (.val d false) b g).bind fun _ g => rest g))
    (hq : ∀ H' W2 g2, EOk W2 H' σ g2 → Stp W1 σ g1 H W2 σ g2 H' → PsS T W2 σ g2 H' R (rest g2) → Q σ H') : gSub (tVar i) (tI T fy) rSetL v σ H Q := by
  cases q : mutL g1 i with
  | none => simp only [q] at h; exact h.elim
  | some xs =>
    simp only [q] at h
    obtain ⟨s, A, vs, e, m, hd, ha, wa, hA, l1, r1⟩ := mutL_at G1 q
    refine ⟨.ref A, ha, W1, g1, G1, (PsS.expr h).mono fun b g2 W2 H2 _ s2 G2 h2 u ru => ?_⟩
    have nb : finSto i (.val d false) b g2 ≠ .bad := fun z => by rw [z] at h2; exact h2
    obtain ⟨d', own, k, ys, j, ed, e1, e2, e3, e4⟩ := finSto_ok nb
    cases ed
    rw [e4] at h2
    have h2 : PsS T W1 σ g1 H R (rest (setL g2 i (ys.set j d))) := h2
    have rv2 := s2.rp G1 rv
    obtain ⟨s', A', us, e', m', hd', ha', wa', hA', l1', r1'⟩ := mutL_at G2 e2
    have eA := ad_inj ha' ha
    subst eA
    have e5 := (ru.opd.rb G2 e1).int
    subst e5
    obtain ⟨G4, s4⟩ := write_list (ys := ys.set j d) G2 e' m' ha' (vs := us.set j v) (by rw [List.length_set]; exact l1') (r1'.set rv2 j)
    have s24 := s2.trans G1.wok s4
    exact ⟨A', us, k, j, rfl, rfl, hA', by rw [r1'.length]; exact e3, hq _ _ _ G4 s24 (PsS.from G1.wok h2 s24)⟩
theorem sto2_imp {K : PySem.W.Frag} {f : Gv → Rs (List Op)} {fy fz : Gv → Rs Op} {i j : Nat} (h : tS T (fun g => (f g).bind fun os g => sto2R fy fz i j os g) D σ H) :
    tAsg (tTup (tIs T f)) (gTup K 2 (gCons (gSub (tVar i) (tI T fy) rSetL) (gCons (gSub (tVar j) (tI T fz) rSetL) gNil))) D σ H := by
  obtain ⟨W, g, G, h⟩ := h
  refine ⟨W, g, G, (PsS.expr h).mono fun os g1 W1 H1 he s1 G1 h1 vs p => ?_⟩
  clear he
  unfold sto2R at h1
  split at h1
  · rename_i d e
    have lv : vs.length = 2 := p.len
    rcases vs with _ | ⟨v, _ | ⟨u, _ | ⟨w, r⟩⟩⟩ <;> first | (cases lv; done) | skip
    have r1 : Rp W1 H1 v d := p.at (i := 0) rfl rfl
    have r2 : Rp W1 H1 u e := p.at (i := 1) rfl rfl
    refine ⟨by show 2 ≤ sizeLine; decide, fun a n => ?_⟩
    have sm := same_upd (o := .tup [v, u]) n
    have G2 := eok_new G1 sm
    have t2 : Stp W1 σ g1 H1 W1 σ g1 _ := stp_new sm
    have s2 := s1.trans G.wok t2
    refine ⟨a, [v, u], rfl, .inl (.inl upd_same), rfl, v, [u], rfl, ?_⟩
    refine stoV_imp (rest := fun g => match mutL g j with
      | none => .bad
      | some _ => (fz g).bind fun b g => (finSto j (.val e false) b g).bind fun _ g => .ok .next g) G2 (t2.rp G1 r1) (PsS.from G.wok h1 s2) fun H3 W3 g3 G3 s3 h3 => ?_
    refine ⟨u, [], rfl, ?_⟩
    refine stoV_imp (rest := fun g => .ok .next g) G3 (s3.rp G2 (t2.rp G1 r2)) h3 fun H4 W4 g4 G4 s4 h4 => ?_
    exact ⟨rfl, h4 σ H4 W4 Stp.refl G4⟩
  · exact h1.elim
/-! ### while -/
theorem wh_imp {ft : Gv → Rs Op} {fb : Gv → Rs Fl} {n : Nat} (h : tS T (whLoop ft fb n) D σ H) : tWhile (tT T ft) (tS T fb) D σ H := by
  refine ⟨fun n σ H => tS T (whLoop ft fb n) D σ H, ⟨n, h⟩, ?_⟩
  intro m σ H h
  obtain ⟨W, g, G, h⟩ := h
  cases m with
  | zero => exact h.elim
  | succ m =>
    have h : PsS T W σ g H _ ((ft g).bind fun a g => br (tst a g) ((fb g).bind fun f g2 => turn f g2 (whLoop ft fb m g2)) (.ok .next g)) := h
    refine ⟨W, g, G, (PsS.expr h).mono fun a g1 W1 H1 _ s1 G1 h1 => ?_⟩
    unfold br at h1
    cases q : tst a g1 with
    | none => rw [q] at h1; exact h1.elim
    | some b =>
      rw [q] at h1
      refine ⟨b, rfl, ?_⟩
      cases b with
      | false => exact iteF (h1 σ H1 W1 s1 G1)
      | true =>
        refine iteT ⟨fun σ' H' => tS T (whLoop ft fb m) D σ' H', fun σ' H' z => ⟨m, Nat.lt_succ_self m, z⟩, W1, g1, G1, (PsS.bind G1.wok (PsS.from G.wok h1 s1)).mono fun fl g' W' σ' H' _ s' G' q => ?_⟩
        have tot := s1.trans G.wok s'
        have again : ∀ {r : Rs Fl}, PsS T W' σ' g' H' (fun fl g' W' σ' H' => FlR σ g H D W' σ' g' H' fl) r → PsS T W' σ' g' H' (fun fl g2 W2 σ2 H2 => FlR σ' g' H' D W2 σ2 g2 H2 fl) r := fun z => z.mono fun fl _ _ _ _ _ _ _ q => q.move tot
        cases fl with
        | next => exact ⟨W', g', G', again q⟩
        | cont => exact ⟨W', g', G', again q⟩
        | brk => exact q σ' H' W' Stp.refl G'
        | ret d own => exact FlR.move s1 (q σ' H' W' Stp.refl G')
theorem whR_imp {ft : Gv → Rs Op} {fb : Gv → Rs Fl} (h : tS T (whRun ft fb) D σ H) : tWhile (tT T ft) (tS T fb) D σ H := wh_imp (n := fuel) h
/-! ### for -/
theorem PsS.unlock {α : Type} {W : Addr → Prop} {g : Gv} {R : α → Gv → (Addr → Prop) → L2.St → Hp → Prop} {r : Rs α} {l : List Nat} (h : PsS T W σ g H R (r.unlock l)) (lk : LockOk g l) (G : EOk W H σ g) :
    PsS T W σ (lockL g l) H (fun a g' W' σ' H' => R a (unlockL g' l) W' σ' H') r := by
  cases r with
  | bad => exact h
  | ex c fs g' => exact fun cls d σ' H' W' s G' x => h cls d σ' H' W' (unlock_back l lk G G' s).2 (unlock_back l lk G G' s).1 x
  | ok a g' => exact fun σ' H' W' s G' => h σ' H' W' (unlock_back l lk G G' s).2 (unlock_back l lk G G' s).1
theorem for_imp {K : PySem.W.Frag} {rng : Bool} {tg : Tg} {fi : Gv → Rs (List TL.D × List Nat)} {fb : Gv → Rs Fl} (h : tS T (fun g => (fi g).bind fun w g => (forLoop tg fb w.1 (lockL g w.2)).unlock w.2) D σ H) :
    tFor (tIt T rng fi) (tgR K tg) (tS T fb) D σ H := by
  obtain ⟨W, g, G, h⟩ := h
  refine ⟨W, g, G, (PsS.expr h).mono fun p g1 W1 H1 _ s1 G1 h1 lk len J F => ?_⟩
  have Gl := lockL_eok p.2 G1
  have h2 := PsS.unlock (PsS.from G.wok h1 s1) lk G1
  let R : Fl → Gv → (Addr → Prop) → L2.St → Hp → Prop := fun fl g' W' σ' H' => FlR σ g H D W' σ' (unlockL g' p.2) H' fl
  let Wm : Nat → Nat → L2.St → Hp → Prop := fun i m σc Hc => m = p.1.length - i ∧ i ≤ p.1.length ∧ ∃ (Wc : Addr → Prop) (gc : Gv), EOk Wc Hc σc gc ∧ Stp W1 σ (lockL g1 p.2) H1 Wc σc gc Hc ∧ PsS T Wc σc gc Hc R (forLoop tg fb (p.1.drop i) gc)
  refine ⟨Wm, ⟨p.1.length, by simp, Nat.zero_le _, W1, _, Gl, Stp.refl, h2⟩, ?_⟩
  rintro i m σc Hc ⟨rfl, hi, Wc, gc, Gc, sc, hl⟩
  have kM := sc.keep
  by_cases e : i = p.1.length
  · subst e
    refine .inl ⟨F.stop _ _ kM (Nat.le_refl _), ?_⟩
    rw [List.drop_length] at hl
    exact hl σc Hc Wc Stp.refl Gc
  · have hlt : i < p.1.length := by omega
    refine .inr ⟨F.go _ _ kM hlt, Wm (i + 1) (p.1.length - (i + 1)), fun σ' H' w => ⟨_, by omega, w⟩, fun x H2 y => ?_⟩
    have hd : p.1[i]? = some p.1[i] := List.getElem?_eq_getElem hlt
    rw [List.drop_eq_getElem_cons hlt] at hl
    have hl : PsS T Wc σc gc Hc R (match bindTg tg p.1[i] gc with | none => .bad | some g1 => (fb g1).bind fun f g2 => turn f g2 (forLoop tg fb (p.1.drop (i + 1)) g2)) := hl
    cases q : bindTg tg p.1[i] gc with
    | none => rw [q] at hl; exact hl.elim
    | some g2 =>
      rw [q] at hl
      obtain ⟨sm, rx⟩ := F.yld i Hc Wc x H2 _ kM sc.wb Gc.wok hd y
      have G2 := eok_new Gc sm
      have s2 : Stp Wc σc gc Hc Wc σc gc H2 := stp_new sm
      refine bind_imp (K := K) G2 (.inl rx) (fun _ _ => rx) q fun σ2 G3 s3 off => ?_
      have s23 := s2.trans Gc.wok s3
      refine ⟨Wc, g2, G3, (PsS.bind G3.wok (PsS.from Gc.wok hl s23)).mono fun fl g' W' σ' H' _ s' G' q' => ?_⟩
      have tot : Stp W1 σ (lockL g1 p.2) H1 W' σ' g' H' := sc.trans Gl.wok (s23.trans Gc.wok s')
      cases fl with
      | next => exact ⟨rfl, hlt, W', g', G', tot, q'⟩
      | cont => exact ⟨rfl, hlt, W', g', G', tot, q'⟩
      | brk => exact q' σ' H' W' Stp.refl G'
      | ret d own =>
        intro v rv
        refine q' σ' H' W' Stp.refl G' v ?_
        cases own with
        | false => exact rv
        | true =>
          obtain ⟨a, e, w, o, n, f⟩ := rv.back (sc.trans Gl.wok s23)
          refine ⟨a, e, w, o, ?_, ?_⟩
          · rintro ⟨j, t, d', ej, hd', hj⟩
            obtain ⟨u, eu, hu⟩ := unlockL_hold p.2 ej
            exact n ⟨j, u, d', eu, hu.trans hd', hj⟩
          · rcases f with f | f
            · exact .inl (s1.there a f)
            · exact (s1.ob a (lockL_mut p.2 f)).elim .inr .inl
end
end TL
/-! TL25: is a statement of the program the one that the language's text says? And what follows. -/
namespace TL
open PySem PySem.Spec PyProof.Rows L2
variable [Plc]

def unpOk : Expr → Bool
  | .Tuple vs _ _ => vs.all (foldedForSure 8)
  | _ => true
def locB (B : BC) (x : Str) : Bool := decide (B.names.lookup x = some .local)
def parOk (B : BC) : List Expr → List Expr → Bool
  | [.Name x px, .Name y py], [a, b] => locB B x && locB B y && (py.line == px.line) && decide (x ≠ y) && !([a, b].all (foldedForSure 8)) && !([a, b].all (constantsAlone 8))
  | [.Name x px, .Name y py, .Name z pz], [a, b, c] => locB B x && locB B y && locB B z && (py.line == px.line) && (pz.line == px.line) && decide (x ≠ y) && decide (x ≠ z) && decide (y ≠ z) && !([a, b, c].all (foldedForSure 8)) && !([a, b, c].all (constantsAlone 8))
  | _, _ => false
def mPar (G : List Fn) (is : List Nat) (es : Es) (B : BC) (ts : List Expr) (e : Expr) : Bool :=
  match ts, e with
  | [.Tuple ts _ _], .Tuple vs _ _ => mTgs B is ts && parOk B ts vs && noStars vs && mEs G es B vs
  | _, _ => false
theorem mPar_inv {G : List Fn} {is : List Nat} {es : Es} {B : BC} {ts : List Expr} {e : Expr} (h : mPar G is es B ts e = true) : ∃ us k1 p1 vs k2 p2, ts = [.Tuple us k1 p1] ∧ e = .Tuple vs k2 p2 ∧ mTgs B is us = true ∧ parOk B us vs = true ∧ noStars vs = true ∧ mEs G es B vs = true := by
  unfold mPar at h
  split at h
  · rw [Bool.and_eq_true, Bool.and_eq_true, Bool.and_eq_true] at h
    exact ⟨_, _, _, _, _, _, rfl, rfl, h.1.1.1, h.1.1.2, h.1.2, h.2⟩
  · cases h
theorem parOk_inv {B : BC} {ts vs : List Expr} (h : parOk B ts vs = true) : (∃ x px y py a b, ts = [.Name x px, .Name y py] ∧ vs = [a, b]) ∨ ∃ x px y py z pz a b c, ts = [.Name x px, .Name y py, .Name z pz] ∧ vs = [a, b, c] := by
  unfold parOk at h
  split at h
  · exact .inl ⟨_, _, _, _, _, _, rfl, rfl⟩
  · exact .inr ⟨_, _, _, _, _, _, _, _, _, rfl, rfl⟩
  · cases h
/-- a pair whose names the compiler does not swap -/
def noSwap (B : BC) (ts : List Expr) : Bool := !(ts.length == 2 || ts.length == 3) || ts.any fun
  | .Name x _ => !(B.names.lookup x == some .local)
  | _ => false
def mParT (G : List Fn) (is : List Nat) (es : Es) (B : BC) (ts : List Expr) (e : Expr) : Bool :=
  match ts, e with
  | [.Tuple ts _ _], .Tuple vs _ _ => (mTgs B is ts && decide (is.length ≤ 64)) && noSwap B ts && noStars vs && mEs G es B vs
  | _, _ => false
theorem mParT_inv {G : List Fn} {is : List Nat} {es : Es} {B : BC} {ts : List Expr} {e : Expr} (h : mParT G is es B ts e = true) : ∃ us k1 p1 vs k2 p2, ts = [.Tuple us k1 p1] ∧ e = .Tuple vs k2 p2 ∧ (mTgs B is us && decide (is.length ≤ 64)) = true ∧ noSwap B us = true ∧ noStars vs = true ∧ mEs G es B vs = true := by
  unfold mParT at h
  split at h
  · rw [Bool.and_eq_true, Bool.and_eq_true, Bool.and_eq_true] at h
    exact ⟨_, _, _, _, _, _, rfl, rfl, h.1.1.1, h.1.1.2, h.1.2, h.2⟩
  · cases h
def notK : E → Bool
  | .lcK _ _ _ _ => false
  | _ => true
def mSto2 (G : List Fn) (i : Nat) (y : E) (j : Nat) (z : E) (es : Es) (B : BC) (ts : List Expr) (e : Expr) : Bool :=
  match ts, e with
  | [.Tuple [.Subscript (.Name n _) ix _, .Subscript (.Name m _) iz _] _ _], .Tuple [a, b] _ _ => ((rdB? B i n && !slice? ix && mE G y B ix) && (rdB? B j m && !slice? iz && mE G z B iz)) && noStars [a, b] && mEs G es B [a, b]
  | _, _ => false
theorem mSto2_inv {G : List Fn} {i : Nat} {y : E} {j : Nat} {z : E} {es : Es} {B : BC} {ts : List Expr} {e : Expr} (h : mSto2 G i y j z es B ts e = true) :
    ∃ n pn ix p1 m pm iz p2 k1 q1 a b k2 q2, ts = [.Tuple [.Subscript (.Name n pn) ix p1, .Subscript (.Name m pm) iz p2] k1 q1] ∧ e = .Tuple [a, b] k2 q2 ∧ (((rdB? B i n && !slice? ix && mE G y B ix) && (rdB? B j m && !slice? iz && mE G z B iz)) && noStars [a, b] && mEs G es B [a, b]) = true := by
  unfold mSto2 at h
  split at h
  · exact ⟨_, _, _, _, _, _, _, _, _, _, _, _, _, _, rfl, rfl, h⟩
  · cases h
def markF (G : List Fn) (f : Nat) : Bool := match G[f]? with | some F => F.mark | none => false
def mTst (G : List Fn) (i : Nat) : Tst → BC → Expr → Bool
  | .pl x, B, e => tOk x e && mE G x B e
  | .rd x, B, e => tOk x e && mE G x B e
  | .mk f, B, .UnaryOp .Not (.Call a b c d) _ => markF G f && mE G (.call f (.cons (.b i) .nil)) B (.Call a b c d)
  | _, _, _ => false
def mTsts (G : List Fn) (i : Nat) : List Tst → BC → List Expr → Bool
  | [], _, [] => true
  | t :: r, B, e :: es => mTst G i t B e && mTsts G i r B es
  | _, _, _ => false
def mIfs (G : List Fn) (i : Nat) (ts : List Tst) (B : BC) : Stmt → Bool
  | .If c _ [] _ => match ts with
    | [t] => mTst G i t B c
    | t :: u :: r => match c with
      | .BoolOp .Or es _ => mTsts G i (t :: u :: r) B es
      | _ => false
    | [] => false
  | _ => false
/-- told[k].append(s) -/
def mAp (G : List Fn) (i k : Nat) (s : D) (B : BC) : Stmt → Bool
  | .Expr (.Call (.Attribute (.Subscript (.Name y _) (.Constant c q1 q2) _) m p) [a] [] q) _ => rdB? B i y && decide (m = ("append" : Str)) && (p.endLine == q.line) && !star? a && mE G (.k (.int k)) B (.Constant c q1 q2) && mE G (.k s) B a
  | _ => false
def mApi (G : List Fn) (i : Nat) (x : E) (k : Nat) (s : D) (B : BC) : Stmt → Bool
  | .If c [st] [] _ => tOk x c && mE G x B c && mAp G i k s B st
  | _ => false
def mLine (G : List Fn) (i : Nat) (ts : List Tst) (B : BC) (st : Stmt) : Bool :=
  match ts with
  | [.ap k s] => mAp G i k s B st
  | [.api x k s] => mApi G i x k s B st
  | ts => mIfs G i ts B st
def mTells (G : List Fn) (i : Nat) : List (List Tst) → BC → List Stmt → Option (List Stmt)
  | [], _, l => some l
  | ts :: r, B, st :: l => if mLine G i ts B st = true then mTells G i r B l else none
  | _ :: _, _, [] => none
def mCr (G : List Fn) : Cr → BC → Expr → Bool
  | .disp es, B, .List vs _ => noStars vs && mEs G es B vs
  | .one x, B, e => !comp? e && mE G x B e
  | _, _, _ => false
def mRse (G : List Fn) (c : Nat) (x : E) (B : BC) (e : Option Expr) : Bool :=
  match e with
  | some (.Call (.Name n _) [a] [] _) => clName G c n && glB B n && !star? a && mE G x B a
  | _ => false
theorem mRse_inv {G : List Fn} {c : Nat} {x : E} {B : BC} {e : Option Expr} (h : mRse G c x B e = true) : ∃ n pn a q, e = some (.Call (.Name n pn) [a] [] q) ∧ (clName G c n && glB B n && !star? a && mE G x B a) = true := by
  unfold mRse at h
  split at h
  · exact ⟨_, _, _, _, rfl, h⟩
  · cases h
def mHd (G : List Fn) (c : Nat) (cs : List Nat) (e i : Nat) (B : BC) (hs : List ExceptHandler) (oe fb : List Stmt) : Bool :=
  match hs, oe, fb with
  | [.ExceptHandler (some (.Name x _)) (some n) [.Assign [.Name y _] (.Name z _) _] _], [], [] => clOf G c x cs && glB B x && stB B e n && locB B n && stB B i y && rdB? B e z
  | _, _, _ => false
theorem mHd_inv {G : List Fn} {c : Nat} {cs : List Nat} {e i : Nat} {B : BC} {hs : List ExceptHandler} {oe fb : List Stmt} (h : mHd G c cs e i B hs oe fb = true) :
    ∃ x px n y py z pz pa ph, hs = [.ExceptHandler (some (.Name x px)) (some n) [.Assign [.Name y py] (.Name z pz) pa] ph] ∧ oe = [] ∧ fb = [] ∧ (clOf G c x cs && glB B x && stB B e n && locB B n && stB B i y && rdB? B e z) = true := by
  unfold mHd at h
  split at h
  · exact ⟨_, _, _, _, _, _, _, _, _, rfl, rfl, rfl, h⟩
  · cases h
section
variable (G : List Fn)
mutual
def mS : S → BC → Stmt → Bool
  | .set i x, B, .Assign [.Name t _] e _ => (stB B i t && notK x) && mE G x B e
  | .unp is x, B, .Assign [.Tuple ts _ _] e _ => mTgs B is ts && unpOk e && mE G x B e
  | .par is es, B, .Assign ts e _ => mPar G is es B ts e
  | .sto i y x, B, .Assign [.Subscript (.Name n _) ix _] e _ => rdB? B i n && !slice? ix && mE G y B ix && mE G x B e
  | .stoD i y x, B, .Assign [.Subscript (.Name n _) ix _] e _ => rdB? B i n && !slice? ix && mE G y B ix && mE G x B e
  | .sto2 i y j z es, B, .Assign ts e _ => mSto2 G i y j z es B ts e
  | .parO is es, B, .Assign ts e _ => mPar G is es B ts e || mParT G is es B ts e
  | .ex x, B, .Expr e _ => !comp? e && mE G x B e
  | .ret x, B, .Return (some e) _ => mE G x B e
  | .retn, _, .Return none _ => true
  | .ife c p q, B, .If c' a b _ => tOk c c' && mE G c B c' && mSs p B a && mSs q B b
  | .wh c p, B, .While c' a [] _ => tOk c c' && mE G c B c' && mSs p B a
  | .for_ tg it p, B, .For t i a [] _ => !setE? i && mTg B tg t && mIt G it B t i && mSs p B a
  | .brk, _, .Break _ => true
  | .cont, _, .Continue _ => true
  | .pass, _, .Pass _ => true
  | .pass, _, .Expr (.Constant (.str _) _ _) _ => true
  | .rse c x, B, .Raise e none _ => mRse G c x B e
  | .tr p c cs e i, B, .Try body hs oe fb _ => mHd G c cs e i B hs oe fb && mSs p B body
  | .nope, _, _ => true
  | _, _, _ => false
def mSs : Ss → BC → List Stmt → Bool
  | .nil, _, [] => true
  | .cons s r, B, a :: as => mS s B a && mSs r B as
  | .tell i c ts r, B, .Assign [.Name t _] e _ :: as => (stB B i t && mCr G c B e) && (match mTells G i ts B as with | some l => mSs r B l | none => false)
  | _, _, _ => false
end
end
/-! ### what the compiler swaps -/
theorem sw_no {e : Expr} {t : Option Expr} {l : Nat} {env : Env} (h : comp? e = false) : swapsWith e t l env = pure false := by
  cases e <;> first | rfl | cases h
theorem sw_lc {elt : Expr} {gens : List Comprehension} {sc : Scope} {p p' : Pos} {t : Str} {l : Nat} {env : Env} : swapsWith (.ListComp elt gens sc p) (some (.Name t p')) l env =
    pure (env.blockKind == .function && env.kindOf t == some .local && p'.line == p.line && !(sc.names.any fun (n, k) => n == t && (k == .local || k == .cell))) := rfl
theorem sole_tup {e : Expr} {ts : List Expr} {k : Nat} {p : Pos} {l : Nat} {env : Env} : swapsWithSole [.Tuple ts k p] e l env = pure false := by
  cases e <;> rfl
theorem sole_sub {e a b : Expr} {p : Pos} {l : Nat} {env : Env} : swapsWithSole [.Subscript a b p] e l env = pure false := by
  cases e <;> rfl
theorem stores_sub {e a b : Expr} {p : Pos} {env : Env} : swappedStores [.Subscript a b p] e env = pure none := by
  cases e <;> rfl
theorem stores_subs {a b c d v1 v2 : Expr} {p1 p2 p3 p4 : Pos} {k k2 : Nat} {env : Env} : swappedStores [.Tuple [.Subscript a b p1, .Subscript c d p2] k p3] (.Tuple [v1, v2] k2 p4) env = pure none := by
  unfold swappedStores
  simp
theorem stores_tup {e : Expr} {ts : List Expr} {k : Nat} {p : Pos} {env : Env} (h : unpOk e = true) : swappedStores [.Tuple ts k p] e env = pure none := by
  cases e <;> first | rfl | skip
  rename_i vs k2 p2
  have h : vs.all (foldedForSure 8) = true := h
  unfold swappedStores
  simp only [h]
  repeat (first | rfl | split)
theorem fun_kind {env : Env} (h : env.scope.kind = .function) : env.blockKind = .function := by
  unfold Env.blockKind
  rw [h]
  rfl
section
variable {G : List Fn} {C : Calls} {k : Nat} {T : Th} {B : BC} {X : Cx}
theorem XOk.kindOf (O : XOk T G C k B X) {x : Str} (h : locB B x = true) : X.env.kindOf x = some .local := by
  unfold Env.kindOf
  rw [O.names]
  exact dec h
theorem stores_two (O : XOk T G C k B X) {x y : Str} {px py : Pos} {a b : Expr} {k1 k2 : Nat} {p1 p2 : Pos} (h : parOk B [.Name x px, .Name y py] [a, b] = true) (ns : noStars [a, b] = true) :
    swappedStores [.Tuple [.Name x px, .Name y py] k1 p1] (.Tuple [a, b] k2 p2) X.env = pure (some [x, y]) := by
  obtain ⟨h, h6⟩ := and2 h
  obtain ⟨h, h5⟩ := and2 h
  obtain ⟨h, h4⟩ := and2 h
  obtain ⟨h, h3⟩ := and2 h
  obtain ⟨h1, h2⟩ := and2 h
  have n : x ≠ y := dec h4
  have e1 : (y == x) = false := beq_eq_false_iff_ne.mpr (Ne.symm n)
  unfold swappedStores
  simp [O.kindOf h1, O.kindOf h2, fun_kind O.kind, eq_of_beq h3, nt h5, nt h6, n, List.eraseDups_cons, Expr.pos, List.filter_cons, e1]
  have m1 := (noSt ns).1
  have m2 := (noSt (noSt ns).2).1
  rintro (q | q)
  · cases a <;> first | (cases q; done) | (cases m1; done)
  · cases b <;> first | (cases q; done) | (cases m2; done)
theorem stores_three (O : XOk T G C k B X) {x y z : Str} {px py pz : Pos} {a b c : Expr} {k1 k2 : Nat} {p1 p2 : Pos} (h : parOk B [.Name x px, .Name y py, .Name z pz] [a, b, c] = true) (ns : noStars [a, b, c] = true) :
    swappedStores [.Tuple [.Name x px, .Name y py, .Name z pz] k1 p1] (.Tuple [a, b, c] k2 p2) X.env = pure (some [x, y, z]) := by
  obtain ⟨h, h10⟩ := and2 h
  obtain ⟨h, h9⟩ := and2 h
  obtain ⟨h, h8⟩ := and2 h
  obtain ⟨h, h7⟩ := and2 h
  obtain ⟨h, h6⟩ := and2 h
  obtain ⟨h, h5⟩ := and2 h
  obtain ⟨h, h4⟩ := and2 h
  obtain ⟨h, h3⟩ := and2 h
  obtain ⟨h1, h2⟩ := and2 h
  have e1 : (y == x) = false := beq_eq_false_iff_ne.mpr (Ne.symm (dec h6))
  have e2 : (z == x) = false := beq_eq_false_iff_ne.mpr (Ne.symm (dec h7))
  have e3 : (z == y) = false := beq_eq_false_iff_ne.mpr (Ne.symm (dec h8))
  unfold swappedStores
  simp [O.kindOf h1, O.kindOf h2, O.kindOf h3, fun_kind O.kind, eq_of_beq h4, eq_of_beq h5, nt h9, nt h10, List.eraseDups_cons, Expr.pos, List.filter_cons, e1, e2, e3]
  have m1 := (noSt ns).1
  have m2 := (noSt (noSt ns).2).1
  have m3 := (noSt (noSt (noSt ns).2).2).1
  rintro (q | q | q)
  · cases a <;> first | (cases q; done) | (cases m1; done)
  · cases b <;> first | (cases q; done) | (cases m2; done)
  · cases c <;> first | (cases q; done) | (cases m3; done)
theorem fm_len {α β : Type} {f : α → Option β} : ∀ {ts : List α}, (ts.any fun t => (f t).isNone) = true → (ts.filterMap f).length < ts.length
  | [], h => nomatch h
  | t :: ts, h => by
    rw [List.filterMap_cons]
    cases e : f t with
    | none =>
      simp only
      have := List.length_filterMap_le f ts
      rw [List.length_cons]; omega
    | some b =>
      simp only
      rw [List.any_cons, e] at h
      have := fm_len (ts := ts) (f := f) h
      rw [List.length_cons, List.length_cons]; omega
theorem stores_none (O : XOk T G C k B X) {ts vs : List Expr} {k1 k2 : Nat} {p1 p2 : Pos} (h : noSwap B ts = true) : swappedStores [.Tuple ts k1 p1] (.Tuple vs k2 p2) X.env = pure none := by
  unfold swappedStores
  simp only
  split
  · rfl
  · split
    · rfl
    · rename_i c1 c2
      have hn : ∀ line : Nat, (ts.filterMap fun | .Name id pos => if X.env.kindOf id == some .local && pos.line == line then some id else none | _ => none).length ≠ ts.length := fun line => by
        refine Nat.ne_of_lt (fm_len ?_)
        unfold noSwap at h
        rcases (Bool.or_eq_true _ _).mp h with h | h
        · exfalso
          apply c1
          rw [h]; rfl
        · obtain ⟨t, m, ht⟩ := List.any_eq_true.mp h
          refine List.any_eq_true.mpr ⟨t, m, ?_⟩
          cases t <;> first | (cases ht; done) | skip
          rename_i x px
          have ht : (!(B.names.lookup x == some .local)) = true := ht
          have e : (X.env.kindOf x == some .local) = false := by
            unfold Env.kindOf
            rw [O.names]
            exact nt ht
          show (if (X.env.kindOf x == some .local && px.line == line) = true then some x else none).isNone = true
          rw [e]; rfl
      rw [if_pos (by
        have := hn ((ts.head?.map (·.pos.line)).getD 0)
        rw [Bool.or_eq_true]
        exact .inl (bne_iff_ne.mpr this))]
end
end TL
/-! TLA: one list of a tree is written. -/
namespace TL
open PySem PySem.Spec PyProof.Rows L2
variable [Plc]
section
variable {V0 : Addr → Prop} {H H' : Hp}
mutual
theorem immV_keep (k : ∀ b x, H b = some x → IsT x → H' b = some x) : ∀ (d : D) (v : V), immD d = true → Rp V0 H v d → Rp V0 H' v d
  | .none, _, _, h => by cases h; exact .non
  | .bool b, _, _, h => by cases h; exact .bl b
  | .int i, _, _, h => by cases h; exact .int i
  | .str x, _, _, h => by cases h; exact .str x
  | .list ds, _, i, _ => by rw [immD] at i; cases i
  | .dict ds, _, i, _ => by rw [immD] at i; cases i
  | .tuple ds, _, i, h => by
    cases h with
    | tup n l r q =>
      refine .tup n l ?_ (immVA_keep k ds _ (by rw [immD] at i; exact i) q)
      rcases r with r | ⟨o, r⟩
      · exact .inl (k _ _ r (.inl ⟨_, rfl⟩))
      · exact .inr ⟨o, k _ _ r (.inr ⟨_, _, rfl⟩)⟩
theorem immVA_keep (k : ∀ b x, H b = some x → IsT x → H' b = some x) : ∀ (ds : List D) (vs : List V), immA ds = true → RpA V0 H vs ds → RpA V0 H' vs ds
  | [], _, _, h => by cases h; exact .nil
  | d :: ds, _, i, h => by
    rw [immA, Bool.and_eq_true] at i
    cases h with
    | cons h1 h2 => exact .cons (immV_keep k d _ i.1 h1) (immVA_keep k ds _ i.2 h2)
end
theorem Dq.imm_of {v : V} {d : D} {L : List Addr} (h : Dq H v d L) (n : ∀ xs, d ≠ .list xs) : immD d = true := by
  cases h with
  | imm i _ => exact i
  | lst _ _ _ _ => exact absurd rfl (n _)
mutual
theorem Dq.keepV : ∀ (d : D) (v : V) (L : List Addr), (∀ b x, H b = some x → (b ∈ L ∨ IsT x) → H' b = some x) → Dq H v d L → Rp V0 H v d → Rp V0 H' v d
  | .list ds, _, _, k, h, r => by
    cases h with
    | imm i r => rw [immD] at i; cases i
    | @lst a xs _ L l e q n =>
      cases r with
      | lst nv l' r' qa =>
        rcases r' with r' | ⟨o, r'⟩
        · rw [e] at r'
          cases r'
          exact .lst nv l (.inl (k _ _ e (.inl List.mem_cons_self))) (DqA.keepV ds _ L (fun b x e' h => k b x e' (h.imp (List.mem_cons_of_mem _) id)) q qa)
        · rw [e] at r'
          cases r'
  | .none, _, _, k, h, r => immV_keep (fun b x e n => k b x e (.inr n)) _ _ rfl r
  | .bool b, _, _, k, h, r => immV_keep (fun b x e n => k b x e (.inr n)) _ _ rfl r
  | .int b, _, _, k, h, r => immV_keep (fun b x e n => k b x e (.inr n)) _ _ rfl r
  | .str b, _, _, k, h, r => immV_keep (fun b x e n => k b x e (.inr n)) _ _ rfl r
  | .tuple b, _, _, k, h, r => immV_keep (fun b x e n => k b x e (.inr n)) _ _ (h.imm_of fun xs z => by cases z) r
  | .dict b, _, _, k, h, r => immV_keep (fun b x e n => k b x e (.inr n)) _ _ (h.imm_of fun xs z => by cases z) r
theorem DqA.keepV : ∀ (ds : List D) (vs : List V) (L : List Addr), (∀ b x, H b = some x → (b ∈ L ∨ IsT x) → H' b = some x) → DqA H vs ds L → RpA V0 H vs ds → RpA V0 H' vs ds
  | [], _, _, k, h, r => by cases h; exact .nil
  | d :: ds, _, _, k, h, r => by
    cases h with
    | cons h1 h2 n =>
      cases r with
      | cons r1 r2 => exact .cons (Dq.keepV d _ _ (fun b x e q => k b x e (q.imp (List.mem_append_left _) id)) h1 r1) (DqA.keepV ds _ _ (fun b x e q => k b x e (q.imp (List.mem_append_right _) id)) h2 r2)
end
theorem DqA.snoc {v : V} {s : D} (i : immD s = true) (r : Rp W0 H v s) : ∀ {vs : List V} {ds : List D} {L : List Addr}, DqA H vs ds L → DqA H (vs ++ [v]) (ds ++ [s]) L
  | _, _, _, .nil => DqA.cons (L := []) (M := []) (.imm i r) .nil (fun b z => by cases z)
  | _, _, _, .cons q t n => .cons q (DqA.snoc i r t) n
/-- a list of the tree -/
theorem DqA.at {zs : List D} : ∀ {vs : List V} {ds : List D} {L : List Addr} {k : Nat}, DqA H vs ds L → ds[k]? = some (.list zs) → ∃ b ys, vs[k]? = some (.ref b) ∧ b ∈ L ∧ H b = some (.lst ys) ∧ ys.length = zs.length
  | _, _, _, _, .nil, h => by cases h
  | _, _, _, 0, .cons q t n, h => by
    have h := Option.some.inj h
    subst h
    cases q with
    | imm i r => rw [immD] at i; cases i
    | lst l e q' n' => exact ⟨_, _, rfl, List.mem_append_left _ List.mem_cons_self, e, q'.len⟩
  | _, _, _, k + 1, .cons q t n, h => by
    obtain ⟨b, ys, e1, e2, e3, e4⟩ := DqA.at (k := k) t h
    exact ⟨b, ys, e1, List.mem_append_right _ e2, e3, e4⟩
/-- one list of the tree gets one more item -/
theorem DqA.put {b : Addr} {ys : List V} {zs : List D} {u : V} {s : D} (eb : H b = some (.lst ys)) (lb : ys.length < sizeLine) (is : immD s = true) (rs : Rp W0 H' u s) (rv : Rp V0 H' u s) (eb' : H' b = some (.lst (ys ++ [u]))) (off : ∀ c x, H c = some x → c ≠ b → H' c = some x) (nv : ¬ V0 b) :
    ∀ {vs : List V} {ds : List D} {L : List Addr} {k : Nat}, DqA H vs ds L → RpA V0 H vs ds → vs[k]? = some (.ref b) → ds[k]? = some (.list zs) → DqA H' vs (ds.set k (.list (zs ++ [s]))) L ∧ RpA V0 H' vs (ds.set k (.list (zs ++ [s])))
  | _, _, _, _, .nil, _, _, h => by cases h
  | _, _, _, 0, .cons q t n, r, h1, h => by
    have h := Option.some.inj h
    have h1 := Option.some.inj h1
    subst h
    subst h1
    have ll : (ys ++ [u]).length ≤ sizeLine := by rw [List.length_append]; exact lb
    have nt : ∀ c x, H c = some x → IsT x → c ≠ b := fun c x e i z => by
      rw [z, eb] at e
      cases e
      exact i.no
    cases r with
    | cons r1 r2 =>
      cases q with
      | imm i r => rw [immD] at i; cases i
      | lst l e q' n' =>
        rw [eb] at e
        cases e
        have kp : ∀ c x, H c = some x → (c ∈ _ ∨ IsT x) → H' c = some x := fun c x e h => off c x e (by
          rcases h with h | h
          · exact fun z => n' (z ▸ h)
          · exact nt c x e h)
        have kt : ∀ c x, H c = some x → (c ∈ _ ∨ IsT x) → H' c = some x := fun c x e h => off c x e (by
          rcases h with h | h
          · exact fun z => n b List.mem_cons_self (z ▸ h)
          · exact nt c x e h)
        refine ⟨.cons (.lst ll eb' (DqA.snoc is rs (DqA.keep _ _ _ kp q')) n') (DqA.keep _ _ _ kt t) n, .cons ?_ (DqA.keepV _ _ _ kt t r2)⟩
        cases r1 with
        | lst nv' l' r' qa =>
          rcases r' with r' | ⟨o, r'⟩
          · rw [eb] at r'
            cases r'
            exact .lst nv ll (.inl eb') ((DqA.keepV _ _ _ kp q' qa).append (.cons rv .nil))
          · rw [eb] at r'
            cases r'
  | _, _, _, k + 1, .cons (L := L0) q t n, r, h1, h => by
    cases r with
    | cons r1 r2 =>
      obtain ⟨b', _, e1, e2, _⟩ := DqA.at (k := k) t h
      rw [List.getElem?_cons_succ] at h1
      rw [e1] at h1
      cases h1
      obtain ⟨p1, p2⟩ := DqA.put (k := k) eb lb is rs rv eb' off nv t r2 e1 h
      have kq : ∀ c x, H c = some x → (c ∈ L0 ∨ IsT x) → H' c = some x := fun c x e h => off c x e (by
        rcases h with h | h
        · exact fun z => n c h (z ▸ e2)
        · intro z
          rw [z, eb] at e
          cases e
          exact h.no)
      exact ⟨.cons (Dq.keep _ _ _ kq q) p1 n, .cons (Dq.keepV _ _ _ kq q r1) p2⟩
end
end TL
/-! TLT: a tree that a place alone holds, made, read, marked. -/
namespace TL
open PySem PySem.Spec PyProof.Rows L2
variable [Plc]
theorem same_off {L : List Addr} {H H' : Hp} (s : Same H H') : Off L H H' := fun b x e _ => s b x e
theorem same_nol {H H' : Hp} (s : Same H H') : NoLess H H' := fun b e => Same.free s e
theorem rp_less {W P : Addr → Prop} {H : Hp} {v : V} {d : D} (r : Rp W H v d) : Rp (less W P) H v d := Rp.mono (fun _ _ e _ => e) sub_less d v r
theorem rp_zero {W : Addr → Prop} {H : Hp} {v : V} {d : D} (r : Rp W H v d) : Rp W0 H v d := Rp.mono (fun _ _ e _ => e) (fun b w => w.elim) d v r
theorem immA_dq {W : Addr → Prop} {H : Hp} : ∀ {xs : List V} {ds : List D}, immA ds = true → RpA W H xs ds → DqA H xs ds []
  | _, _, _, .nil => .nil
  | _, _, i, .cons r q => by
    rw [immA, Bool.and_eq_true] at i
    exact DqA.cons (L := []) (M := []) (.imm i.1 (rp_zero r)) (immA_dq i.2 q) (fun b z => by cases z)
theorem flat_dq {W : Addr → Prop} {H : Hp} {a : Addr} {d : D} (f : flatD d = true) (o : Own W H a d) : Dq H (.ref a) d [a] := by
  cases d <;> first | (cases f; done) | skip
  obtain ⟨xs, e, l, q⟩ := o
  exact .lst l e (immA_dq f q) (by simp)
section
variable {W W1 : Addr → Prop} {σ : L2.St} {g g1 g' : Gv} {H H1 : Hp}
/-- a place that is forgotten as something is stored there -/
theorem un_stp (G : EOk W H σ g) (G1 : EOk W1 H1 σ g1) (s1 : Stp W σ g H W1 σ g1 H1) {i : Nat} {v : V} (h : put g1 i .un = some g') :
    EOk W1 H1 (σ.set i (some v)) g' ∧ Stp W σ g H W1 (σ.set i (some v)) g' H1 ∧ (∀ b, HeldA (σ.set i (some v)) g' b → HeldA σ g1 b) ∧ (σ.set i (some v))[i]? = some (some v) := by
  obtain ⟨rfl, t, et, nl, ni⟩ := put_ok h
  have li : i < σ.length := by
    rw [← G1.len]
    exact (List.getElem?_eq_some_iff.mp et).1
  have other : ∀ (j : Nat) (u : Slot), (g1.set i .un)[j]? = some u → u ≠ .un → i ≠ j ∧ g1[j]? = some u := fun j u e n => by
    rcases get_set e with ⟨rfl, es⟩ | ⟨n1, e⟩
    · exact absurd es n
    · exact ⟨n1, e⟩
  refine ⟨⟨by rw [List.length_set, List.length_set]; exact G1.len, G1.wok, fun j d e => ?_, fun j u d e hd => ?_, fun j k u w a n e1 e2 m hd ha hb => ?_⟩, ⟨s1.keep, s1.there, s1.w, s1.wb, fun b m => ?_, fun j d e => ?_, fun j d e => ?_, fun j d e => ?_⟩, fun b hb => ?_, List.getElem?_set_self li⟩
  · obtain ⟨n, e⟩ := other j _ e (fun z => nomatch z)
    obtain ⟨u, eu, r⟩ := G1.sh j d e
    exact ⟨u, by rw [List.getElem?_set_ne n]; exact eu, r⟩
  · obtain ⟨n, e⟩ := other j u e (fun z => by subst z; cases hd)
    obtain ⟨a, ha, wa, oa⟩ := G1.hd j u d e hd
    exact ⟨a, (ad_set n).mpr ha, wa, oa⟩
  · obtain ⟨n1, e1⟩ := other j u e1 (fun z => by subst z; cases m)
    obtain ⟨n2, e2⟩ := other k w e2 (fun z => by subst z; obtain ⟨_, hd⟩ := hd; cases hd)
    exact G1.inj j k u w a n e1 e2 m hd ((ad_set n1).mp ha) ((ad_set n2).mp hb)
  · obtain ⟨j, u, e, m, hb⟩ := m
    obtain ⟨n, e⟩ := other j u e (fun z => by subst z; cases m)
    exact s1.ob b ⟨j, u, e, m, (ad_set n).mp hb⟩
  · obtain ⟨e1, e2⟩ := s1.lf j d e
    have n : i ≠ j := fun z => by subst z; rw [et] at e1; cases e1; exact nl _ rfl
    exact ⟨by rw [List.getElem?_set_ne n]; exact e1, by rw [List.getElem?_set_ne n]⟩
  · obtain ⟨n, e⟩ := other j _ e (fun z => nomatch z)
    exact s1.lb j d e
  · obtain ⟨⟨d', e1⟩, e2⟩ := s1.fx j d e
    have n : i ≠ j := fun z => by subst z; rw [et] at e1; cases e1; exact ni _ rfl
    exact ⟨⟨d', by rw [List.getElem?_set_ne n]; exact e1⟩, by rw [List.getElem?_set_ne n]⟩
  · obtain ⟨j, u, d, e, hd, hj⟩ := hb
    obtain ⟨n, e⟩ := other j u e (fun z => by subst z; cases hd)
    exact ⟨j, u, d, e, hd, (ad_set n).mp hj⟩
end
/-- the tree's state since the statement began at Ws σs gs Hs -/
structure Tell (i : Nat) (st : Option D) (Ws : Addr → Prop) (σs : L2.St) (gs : Gv) (Hs : Hp) (W : Addr → Prop) (σ : L2.St) (g : Gv) (H : Hp) : Prop where
  wok : ∀ b, Ws b → ∃ o, Hs b = some o
  G : EOk W H σ g
  s : Stp Ws σs gs Hs W σ g H
  tr : ∀ d, st = some d → ∃ a L, ad σ i a ∧ Dq H (.ref a) d (a :: L) ∧ Rp (less W fun b => b ∈ a :: L) H (.ref a) d ∧ ∀ b, b ∈ a :: L → W b ∧ ¬ HeldA σ g b ∧ (Hs b = none ∨ MutA σs gs b)
section
variable {i : Nat} {st : Option D} {Ws W W' : Addr → Prop} {σs σ : L2.St} {gs g g' : Gv} {Hs H H' : Hp}
theorem tup_mut (G : EOk W H σ g) {b : Addr} {x : HO} (e : H b = some x) (t : IsT x) : ¬ MutA σ g b := fun m => by
  obtain ⟨j, u, d, ej, hd, hj⟩ := m.held
  obtain ⟨a, ha, _, o⟩ := G.hd j u d ej hd
  have := ad_inj ha hj
  subst this
  cases d <;> first | (exact o.elim) | skip
  · obtain ⟨xs, e2, _⟩ := o
    rw [e2] at e
    cases e
    exact t.no
  · obtain ⟨xs, e2, _⟩ := o
    rw [e2] at e
    cases e
    rcases t with ⟨_, z⟩ | ⟨_, _, z⟩ <;> cases z
theorem Tell.step (t : Tell i st Ws σs gs Hs W σ g H) (s : Stp W σ g H W' σ g' H') (G' : EOk W' H' σ g') : Tell i st Ws σs gs Hs W' σ g' H' where
  wok := t.wok
  G := G'
  s := t.s.trans t.wok s
  tr := fun d e => by
    obtain ⟨a, L, ha, q, r, f⟩ := t.tr d e
    have kp : ∀ b x, H b = some x → (b ∈ a :: L ∨ IsT x) → H' b = some x := fun b x eb h => s.keep b x eb fun m => by
      rcases h with h | h
      · exact (f b h).2.1 m.held
      · exact tup_mut t.G eb h m
    refine ⟨a, L, ha, Dq.keep d _ _ kp q, Rp.mono (fun b x eb n => s.keep b x eb fun m => n ⟨t.G.mutW m.held, fun z => (f b z).2.1 m.held⟩) (fun b w => (s.wb b w.1).imp (fun z => ⟨z, w.2⟩) id) d _ r, fun b hb => ⟨s.w b (f b hb).1 fun m => (f b hb).2.1 m.held, fun z => ?_, (f b hb).2.2⟩⟩
    rcases s.held z with z | z
    · exact (f b hb).2.1 z
    · obtain ⟨o, eo⟩ := t.G.wok b (f b hb).1
      rw [eo] at z; cases z
theorem Tell.same (t : Tell i st Ws σs gs Hs W σ g H) (s : Same H H') : Tell i st Ws σs gs Hs W σ g H' := t.step (stp_new s) (eok_new t.G s)
theorem Tell.marked {a : Addr} {L : List Addr} (t : Tell i st Ws σs gs Hs W σ g H) (f : ∀ b, b ∈ a :: L → W b ∧ ¬ HeldA σ g b ∧ (Hs b = none ∨ MutA σs gs b)) (o : Off (a :: L) H H') (n : NoLess H H') : Tell i none Ws σs gs Hs W σ g H' where
  wok := t.wok
  G := {
    len := t.G.len
    wok := fun b w => by
      cases e : H' b with
      | some x => exact ⟨x, rfl⟩
      | none =>
        obtain ⟨x, ex⟩ := t.G.wok b w
        rw [n b e] at ex; cases ex
    sh := fun j d' e => by
      obtain ⟨v, ev, r⟩ := t.G.sh j d' e
      exact ⟨v, ev, Rp.mono (fun b x eb nb => o b x eb fun z => nb (f b z).1) (fun b w => .inl w) d' v r⟩
    hd := fun j u d' e hd => by
      obtain ⟨b, hb, wb, ob⟩ := t.G.hd j u d' e hd
      exact ⟨b, hb, wb, Own.mono (fun c x ec nc => o c x ec fun z => nc (f c z).1) (fun b w => .inl w) (fun x ex => o b x ex fun z => (f b z).2.1 ⟨j, u, d', e, hd, hb⟩) ob⟩
    inj := t.G.inj }
  s := ⟨fun b x e nm => o b x (t.s.keep b x e nm) fun z => by
      rcases (f b z).2.2 with z | z
      · rw [e] at z; cases z
      · exact nm z, fun b e => t.s.there b (n b e), t.s.w, t.s.wb, t.s.ob, t.s.lf, t.s.lb, t.s.fx⟩
  tr := fun d e => nomatch e
/-- the tree itself -/
structure TrF (i : Nat) (d : D) (σs : L2.St) (gs : Gv) (Hs : Hp) (W : Addr → Prop) (σ : L2.St) (g : Gv) (H : Hp) (a : Addr) (L : List Addr) : Prop where
  ad : ad σ i a
  dq : Dq H (.ref a) d (a :: L)
  rp : Rp (less W fun b => b ∈ a :: L) H (.ref a) d
  fr : ∀ b, b ∈ a :: L → W b ∧ ¬ HeldA σ g b ∧ (Hs b = none ∨ MutA σs gs b)
theorem Tell.stepF (t : Tell i st Ws σs gs Hs W σ g H) {d : D} {a : Addr} {L : List Addr} (f : TrF i d σs gs Hs W σ g H a L) (s : Stp W σ g H W' σ g' H') : TrF i d σs gs Hs W' σ g' H' a L ∧ ∀ b x, H b = some x → (b ∈ a :: L ∨ IsT x) → H' b = some x := by
  have kp : ∀ b x, H b = some x → (b ∈ a :: L ∨ IsT x) → H' b = some x := fun b x eb h => s.keep b x eb fun m => by
    rcases h with h | h
    · exact (f.fr b h).2.1 m.held
    · exact tup_mut t.G eb h m
  refine ⟨⟨f.ad, Dq.keep d _ _ kp f.dq, Rp.mono (fun b x eb n => s.keep b x eb fun m => n ⟨t.G.mutW m.held, fun z => (f.fr b z).2.1 m.held⟩) (fun b w => (s.wb b w.1).imp (fun z => ⟨z, w.2⟩) id) d _ f.rp, fun b hb => ⟨s.w b (f.fr b hb).1 fun m => (f.fr b hb).2.1 m.held, fun z => ?_, (f.fr b hb).2.2⟩⟩, kp⟩
  rcases s.held z with z | z
  · exact (f.fr b hb).2.1 z
  · obtain ⟨o, eo⟩ := t.G.wok b (f.fr b hb).1
    rw [eo] at z; cases z
theorem apD_ok {k : Nat} {s : D} {st : Option D} {d' : D} (h : apD k s st = some d') : ∃ ds zs, st = some (.list ds) ∧ ds[k]? = some (.list zs) ∧ immD s = true ∧ zs.length < sizeLine ∧ d' = .list (ds.set k (.list (zs ++ [s]))) := by
  unfold apD at h
  split at h
  · rename_i ds
    split at h
    · rename_i zs e
      split at h
      · rename_i c
        rw [Bool.and_eq_true, decide_eq_true_eq] at c
        cases h
        exact ⟨ds, zs, rfl, e, c.1, c.2, rfl⟩
      · cases h
    · cases h
  · cases h
/-- the tree as the readers see it -/
theorem Tell.view {d : D} (t : Tell i (some d) Ws σs gs Hs W σ g H) (hi : i < g.length) : ∃ P, EOk (less W P) H σ ((frz [] g).set i (.sh d)) ∧ ∀ c, ¬ MutA σ ((frz [] g).set i (.sh d)) c := by
  obtain ⟨a, L, ha, q, r, f⟩ := t.tr d rfl
  have Gf := frz_eok (is := []) t.G
  have nb : ∀ b, ¬ BorP [] σ g b := fun b ⟨_, _, c, _⟩ => by cases c
  have up : ∀ {v : V} {d : D}, Rp (less W (BorP [] σ g)) H v d → Rp (less W fun b => b ∈ a :: L) H v d := fun {v d} r => Rp.mono (fun _ _ e _ => e) (fun b w => .inl ⟨w.1, nb b⟩) d v r
  have nm : ∀ c, ¬ MutA σ ((frz [] g).set i (.sh d)) c := fun c ⟨j, u, e, m, hj⟩ => by
    rcases get_set e with ⟨rfl, es⟩ | ⟨n, e⟩
    · subst es; cases m
    · exact frz_mut ⟨j, u, e, m, hj⟩
  refine ⟨fun b => b ∈ a :: L, ⟨by rw [List.length_set]; exact Gf.len, fun b w => t.G.wok b w.1, fun j d' e => ?_, fun j u d' e hd => ?_, fun j k u w b _ e1 _ m _ hj _ => (nm b ⟨j, u, e1, m, hj⟩).elim⟩, nm⟩
  · rcases get_set e with ⟨rfl, es⟩ | ⟨n, e⟩
    · cases es
      exact ⟨.ref a, ha, r⟩
    · obtain ⟨v, ev, rv⟩ := Gf.sh j d' e
      exact ⟨v, ev, up rv⟩
  · rcases get_set e with ⟨rfl, es⟩ | ⟨n, e⟩
    · subst es; cases hd
    · obtain ⟨b, hb, wb, ob⟩ := Gf.hd j u d' e hd
      obtain ⟨t', et, es⟩ := frz_get e
      have hld : HeldA σ g b := by
        cases t' with
        | un => subst es; cases hd
        | sh _ => subst es; cases hd
        | lk d2 => exact ⟨j, _, d2, et, rfl, hb⟩
        | io d2 => exact ⟨j, _, d2, et, rfl, hb⟩
        | ow d2 => exact ⟨j, _, d2, et, rfl, hb⟩
      exact ⟨b, hb, ⟨wb.1, fun z => (f b z).2.1 hld⟩, Own.mono (fun _ _ e _ => e) (fun c w => .inl ⟨w.1, nb c⟩) (fun _ e => e) ob⟩
end
/-! ### how the tree is made -/
theorem tellV_ok {Ws W1 : Addr → Prop} {σ : L2.St} {gs g1 : Gv} {Hs H1 : Hp} {vs : List V} {os : List Op} (p : Pend σ gs Hs W1 g1 H1 vs os) : ∀ {ds : List D}, tellV os = some ds → ∃ L, DqA H1 vs ds L ∧ (∀ b, b ∈ L → ownsOf vs os b) ∧ RpA (less W1 fun b => b ∈ L) H1 vs ds := by
  induction p with
  | nil =>
    intro ds h
    have h' : some [] = some ds := h
    cases h'
    exact ⟨[], .nil, (fun b z => by cases z), .nil⟩
  | @cons v o vs os r dj t ih =>
    intro ds h
    cases o with
    | slot _ => cases h
    | val d own =>
      have h' : (if okItem own d = true then (tellV os).map (d :: ·) else none) = some ds := h
      by_cases c : okItem own d = true
      · rw [if_pos c] at h'
        cases e : tellV os with
        | none => rw [e] at h'; cases h'
        | some es =>
          rw [e] at h'
          have h2 : some (d :: es) = some ds := h'
          cases h2
          obtain ⟨M, qM, oM, rM⟩ := ih e
          cases own with
          | false =>
            have r : Rp W1 H1 v d := r
            refine ⟨M, DqA.cons (L := []) (.imm c (rp_zero r)) qM (fun b z => by cases z), fun b z => ?_, .cons (rp_less r) rM⟩
            obtain ⟨q, hq, o⟩ := oM b z
            exact ⟨q, by simp [hq], o⟩
          | true =>
            obtain ⟨a, rfl, wa, oa, _⟩ := r
            have ha : ∀ b, b ∈ M → b ≠ a := fun b z y => by
              obtain ⟨q, hq, o⟩ := oM b z
              rw [y] at o
              exact dj a ⟨⟨d, rfl⟩, rfl⟩ q hq o
            refine ⟨[a] ++ M, DqA.cons (L := [a]) (flat_dq c oa) qM (fun b z y => ha b y (by simpa using z)), fun b z => ?_, .cons ?_ ?_⟩
            · rcases List.mem_append.mp z with z | z
              · have : b = a := by simpa using z
                subst this
                exact ⟨(.ref b, .val d true), by simp, ⟨d, rfl⟩, rfl⟩
              · obtain ⟨q, hq, o⟩ := oM b z
                exact ⟨q, by simp [hq], o⟩
            · exact Own.give (fun z => z.2 (by simp)) (Own.mono (fun _ _ e _ => e) sub_less (fun _ e => e) oa)
            · exact RpA.mono (fun _ _ e _ => e) (fun b w => .inl ⟨w.1, fun z => w.2 (List.mem_append_right _ z)⟩) _ _ rM
      · rw [if_neg c] at h'; cases h'
section
variable {T : Th} {D : Ends} {i : Nat} {Ws : Addr → Prop} {σ : L2.St} {gs : Gv} {Hs : Hp}
theorem finDisp_ok {os : List Op} {g : Gv} (h : finDisp os g ≠ .bad) : ∃ ds, tellV os = some ds ∧ ds.length ≤ sizeLine ∧ finDisp os g = .ok (.list ds) g := by
  unfold finDisp at h ⊢
  cases e : tellV os with
  | none => rw [e] at h; exact absurd rfl h
  | some ds =>
    rw [e] at h
    simp only at h ⊢
    by_cases l : ds.length ≤ sizeLine
    · exact ⟨ds, rfl, l, by rw [if_pos l]⟩
    · rw [if_neg l] at h; exact absurd rfl h
theorem finOne_ok {a : Op} {g : Gv} (h : finOne a g ≠ .bad) : ∃ d, a = .val d true ∧ flatD d = true ∧ finOne a g = .ok d g := by
  unfold finOne at h ⊢
  cases a with
  | slot _ => exact absurd rfl h
  | val d own =>
    cases own with
    | false => exact absurd rfl h
    | true =>
      simp only at h ⊢
      by_cases f : flatD d = true
      · exact ⟨d, rfl, f, by rw [if_pos f]⟩
      · rw [if_neg f] at h; exact absurd rfl h
/-- a display of own lists: the tree's first state -/
theorem disp_imp {f : Gv → Rs (List Op)} {R : Fl → Gv → (Addr → Prop) → L2.St → Hp → Prop} {k : TL.D → Gv → Rs Fl} (G : EOk Ws Hs σ gs) (h : PsS T Ws σ gs Hs R (((f gs).bind finDisp).bind fun d g => match put g i .un with | none => .bad | some g1 => k d g1)) {Q : L2.St → Hp → Prop}
    (hq : ∀ d W σ' g H, Tell i (some d) Ws σ gs Hs W σ' g H → i < g.length → PsS T Ws σ gs Hs R (k d g) → Q σ' H) : tLst (tIs T f) σ Hs fun v H' => gName i v σ H' Q := by
  refine ⟨Ws, gs, G, ?_⟩
  have h : PsS T Ws σ gs Hs R ((f gs).bind fun os g => (finDisp os g).bind fun d g => match put g i .un with | none => .bad | some g1 => k d g1) := by
    cases e : f gs with
    | bad => rw [e] at h; exact h
    | ex c fs g' => rw [e] at h; exact h
    | ok a g' => rw [e] at h; exact h
  refine (PsS.expr h).mono fun os g1 W1 H1 _ s1 G1 h1 vs p => ?_
  have nb : finDisp os g1 ≠ .bad := fun z => by rw [z] at h1; exact h1
  obtain ⟨ds, e1, l, e2⟩ := finDisp_ok nb
  rw [e2] at h1
  have h1 : PsS T Ws σ gs Hs R (match put g1 i .un with | none => .bad | some g1 => k (.list ds) g1) := h1
  obtain ⟨L, q, ow, rp⟩ := tellV_ok (Ws := Ws) p e1
  have lv : vs.length ≤ sizeLine := by rw [q.len]; exact l
  refine ⟨lv, fun a n => ?_⟩
  cases e3 : put g1 i .un with
  | none => rw [e3] at h1; exact h1.elim
  | some g2 =>
    rw [e3] at h1
    have sm : Same H1 (upd H1 a (.lst vs)) := same_upd n
    have G2 := eok_more G1 sm n ⟨_, upd_same⟩
    have s2 := s1.trans G.wok (stp_more sm n)
    obtain ⟨G3, s3, hh, ev⟩ := un_stp (v := .ref a) G G2 s2 e3
    have nW : ¬ W1 a := fun w => by
      obtain ⟨_, q⟩ := G1.wok a w
      rw [n] at q; cases q
    have aL : a ∉ L := fun z => by
      obtain ⟨pq, hq, o⟩ := ow a z
      exact nW (p.fresh hq o).1
    refine hq (.list ds) _ _ g2 _ ⟨G.wok, G3, s3, fun d e => ?_⟩ ?_ h1
    · cases e
      have dq : Dq (upd H1 a (.lst vs)) (.ref a) (.list ds) (a :: L) := .lst lv upd_same (DqA.keep _ _ _ (fun b x e _ => sm b x e) q) aL
      refine ⟨a, L, ev, dq, .lst (fun z => z.2 List.mem_cons_self) lv (.inl upd_same) (RpA.mono (fun b x e _ => sm b x e) (fun b w => ?_) _ _ rp), fun b hb => ?_⟩
      · rcases w.1 with z | z
        · exact .inl ⟨z, fun y => w.2 (List.mem_cons_of_mem _ y)⟩
        · exact absurd (by rw [z]; exact List.mem_cons_self) w.2
      · rcases List.mem_cons.mp hb with rfl | hb
        · exact ⟨.inr rfl, fun z => nW (G1.mutW (hh b z)), .inl (s1.there b n)⟩
        · obtain ⟨pq, hq, o⟩ := ow b hb
          obtain ⟨w1, w2, w3, _⟩ := p.fresh hq o
          exact ⟨.inl w1, fun z => w2 (hh b z), w3⟩
    · have : g2.length = g1.length := by
        obtain ⟨rfl, _⟩ := put_ok e3
        simp
      rw [this]
      obtain ⟨_, t, et, _⟩ := put_ok e3
      exact (List.getElem?_eq_some_iff.mp et).1
/-- one own list -/
theorem mkOne_imp {f : Gv → Rs Op} {R : Fl → Gv → (Addr → Prop) → L2.St → Hp → Prop} {k : TL.D → Gv → Rs Fl} (G : EOk Ws Hs σ gs) (h : PsS T Ws σ gs Hs R (((f gs).bind finOne).bind fun d g => match put g i .un with | none => .bad | some g1 => k d g1)) {Q : L2.St → Hp → Prop}
    (hq : ∀ d W σ' g H, Tell i (some d) Ws σ gs Hs W σ' g H → i < g.length → PsS T Ws σ gs Hs R (k d g) → Q σ' H) : tI T f σ Hs fun v H' => gName i v σ H' Q := by
  refine ⟨Ws, gs, G, ?_⟩
  have h : PsS T Ws σ gs Hs R ((f gs).bind fun os g => (finOne os g).bind fun d g => match put g i .un with | none => .bad | some g1 => k d g1) := by
    cases e : f gs with
    | bad => rw [e] at h; exact h
    | ex c fs g' => rw [e] at h; exact h
    | ok a g' => rw [e] at h; exact h
  refine (PsS.expr h).mono fun o g1 W1 H1 _ s1 G1 h1 v r => ?_
  have nb : finOne o g1 ≠ .bad := fun z => by rw [z] at h1; exact h1
  obtain ⟨d, rfl, fd, e2⟩ := finOne_ok nb
  rw [e2] at h1
  have h1 : PsS T Ws σ gs Hs R (match put g1 i .un with | none => .bad | some g1 => k d g1) := h1
  obtain ⟨a, rfl, wa, oa, nh, fr⟩ := r
  cases e3 : put g1 i .un with
  | none => rw [e3] at h1; exact h1.elim
  | some g2 =>
    rw [e3] at h1
    obtain ⟨G3, s3, hh, ev⟩ := un_stp (v := .ref a) G G1 s1 e3
    refine hq d _ _ g2 _ ⟨G.wok, G3, s3, fun d' e => ?_⟩ ?_ h1
    · cases e
      refine ⟨a, [], ev, flat_dq fd oa, Own.give (fun z => z.2 List.mem_cons_self) (Own.mono (fun _ _ e _ => e) sub_less (fun _ e => e) oa), fun b hb => ?_⟩
      have : b = a := by simpa using hb
      subst this
      exact ⟨wa, fun z => nh (hh b z), fr⟩
    · have : g2.length = g1.length := by
        obtain ⟨rfl, _⟩ := put_ok e3
        simp
      rw [this]
      obtain ⟨_, t, et, _⟩ := put_ok e3
      exact (List.getElem?_eq_some_iff.mp et).1
end
/-! ### the tests -/
section
variable {T : Th} {G : List Fn} {C : Calls} {k m : Nat} {B : BC} {X : Cx} {F : Fn}
/-- the function called with one name -/
theorem pe_mark (O : XOk T G C k B X) (hF : G[m]? = some F) (hk : F.mark = true) {i : Nat} {e : Expr} (h : mE G (.call m (.cons (.b i) .nil)) B e = true) : PE X e (tCallG T (spM k) (tCons (tVar i) tNil)) := by
  cases e <;> first | (cases h; done) | skip
  rename_i fn as kws p
  cases fn <;> first | (cases h; done) | skip
  rename_i x q
  cases kws <;> first | (cases h; done) | skip
  obtain ⟨h, h4⟩ := and2 h
  obtain ⟨h, h3⟩ := and2 h
  obtain ⟨h1, h2⟩ := and2 h
  obtain ⟨F', e1, e2, e0⟩ := fn_at h1
  subst e2
  rw [hF] at e1
  cases e1
  obtain ⟨g, fd, m1, m2, m3, m4⟩ := O.marks m F hF hk
  obtain ⟨gl, db, _⟩ := O.gl h2
  rcases as with _ | ⟨a, _ | ⟨b, as⟩⟩ <;> first | (cases h4; done) | (cases (and2 h4).2; done) | skip
  have ha := (and2 h4).1
  cases a <;> first | (cases ha; done) | skip
  have n0 := (noSt h3).1
  exact pe_callG m4 O.gd O.room gl m1 m2 m3 O.takes (pa_cons' (O.var ha) n0 pa_nil) db (star_cons n0 [] X.env) (star_plain (noSt h3).2 p X.env)

def tOne (T : Th) (G : List Fn) (C : Calls) (k i : Nat) : Tst → TT
  | .pl x => tT T (ev C (wrOf G) x)
  | .rd x => tT T (ev C (wrOf G) x)
  | .mk _ => tNot (tB (tCallG T (spM k) (tCons (tVar i) tNil)))
  | .ap _ _ => fun _ _ _ => False
  | .api _ _ _ => fun _ _ _ => False
def tTsts (T : Th) (G : List Fn) (C : Calls) (k i : Nat) : List Tst → TT
  | [] => fun _ _ _ => False
  | [t] => tOne T G C k i t
  | t :: u :: r => tOr (tOne T G C k i t) (tTsts T G C k i (u :: r))
theorem one_pt (O : XOk T G C k B X) {i : Nat} {t : Tst} {e : Expr} (h : mTst G i t B e = true) : PT X e (tOne T G C k i t) := by
  cases t with
  | pl x =>
    obtain ⟨h1, h2⟩ := and2 h
    exact (sE x O h2).2 h1
  | rd x =>
    obtain ⟨h1, h2⟩ := and2 h
    exact (sE x O h2).2 h1
  | mk f =>
    cases e <;> first | (cases h; done) | skip
    rename_i u a p
    cases u <;> cases a <;> first | (cases h; done) | skip
    obtain ⟨h1, h2⟩ := and2 h
    unfold markF at h1
    cases eF : G[f]? with
    | none => rw [eF] at h1; cases h1
    | some F =>
      rw [eF] at h1
      exact pt_not (pt_val (pe_mark O eF h1 h2))
  | ap k s => cases e <;> cases h
  | api x k s => cases e <;> cases h
theorem tsts_pw (O : XOk T G C k B X) {i : Nat} : ∀ {ts : List Tst} {es : List Expr} {p : Pos}, ts ≠ [] → mTsts G i ts B es = true → PW X (.BoolOp .Or es p) (tTsts T G C k i ts)
  | [], _, _, n, _ => absurd rfl n
  | [t], es, p, _, h => by
    cases es with
    | nil => cases h
    | cons e es =>
      obtain ⟨h1, h2⟩ := and2 h
      cases es with
      | nil => exact pw_or1 (one_pt O h1)
      | cons _ _ => cases h2
  | t :: u :: r, es, p, _, h => by
    cases es with
    | nil => cases h
    | cons e es =>
      obtain ⟨h1, h2⟩ := and2 h
      cases es with
      | nil => cases h2
      | cons e2 es => exact pw_or (one_pt O h1) (tsts_pw O (by simp) h2)
theorem ifs_ps (O : XOk T G C k B X) {i : Nat} {ts : List Tst} {st : Stmt} (h : mIfs G i ts B st = true) : PS X st (tIfS (tTsts T G C k i ts) tNever tNext) := by
  cases st <;> first | (cases h; done) | skip
  rename_i c a b p
  cases b <;> first | (cases h; done) | skip
  cases ts with
  | nil => cases h
  | cons t ts =>
    cases ts with
    | nil => exact ps_if (one_pt O h) pss_never pss_nil
    | cons u r =>
      cases c <;> first | (cases h; done) | skip
      rename_i o es p2
      cases o <;> first | (cases h; done) | skip
      exact ps_if (pt_pw (tsts_pw O (by simp) h)) pss_never pss_nil
def tAp (T : Th) (C : Calls) (wr : Nat → Bool) (K : PySem.W.Frag) (i kk : Nat) (s : TL.D) : TE := tBM K "list" rAppend (tOp (rIxL K) (tVar i) (tI T (ev C wr (.k (.int kk))))) (tCons (tI T (ev C wr (.k s))) tNil)
def tLine (T : Th) (G : List Fn) (C : Calls) (K : PySem.W.Frag) (k i : Nat) : List Tst → TS
  | [.ap kk s] => tDrop (tAp T C (wrOf G) K i kk s)
  | [.api x kk s] => tIfS (tT T (ev C (wrOf G) x)) (tSeq (tDrop (tAp T C (wrOf G) K i kk s)) tNext) tNext
  | ts => tIfS (tTsts T G C k i ts) tNever tNext
theorem line_cases (ts : List Tst) : (∃ kk s, ts = [.ap kk s]) ∨ (∃ x kk s, ts = [.api x kk s]) ∨ (∀ (T : Th) (G : List Fn) (C : Calls) (K : PySem.W.Frag) (k i : Nat), tLine T G C K k i ts = tIfS (tTsts T G C k i ts) tNever tNext) ∧ ∀ (G : List Fn) (i : Nat) (B : BC) (st : Stmt), mLine G i ts B st = mIfs G i ts B st := by
  match ts with
  | [] => exact .inr (.inr ⟨fun _ _ _ _ _ _ => rfl, fun _ _ _ _ => rfl⟩)
  | [.ap kk s] => exact .inl ⟨kk, s, rfl⟩
  | [.api x kk s] => exact .inr (.inl ⟨x, kk, s, rfl⟩)
  | [.pl x] => exact .inr (.inr ⟨fun _ _ _ _ _ _ => rfl, fun _ _ _ _ => rfl⟩)
  | [.rd x] => exact .inr (.inr ⟨fun _ _ _ _ _ _ => rfl, fun _ _ _ _ => rfl⟩)
  | [.mk x] => exact .inr (.inr ⟨fun _ _ _ _ _ _ => rfl, fun _ _ _ _ => rfl⟩)
  | .pl x :: u :: r => exact .inr (.inr ⟨fun _ _ _ _ _ _ => rfl, fun _ _ _ _ => rfl⟩)
  | .rd x :: u :: r => exact .inr (.inr ⟨fun _ _ _ _ _ _ => rfl, fun _ _ _ _ => rfl⟩)
  | .mk x :: u :: r => exact .inr (.inr ⟨fun _ _ _ _ _ _ => rfl, fun _ _ _ _ => rfl⟩)
  | .ap x y :: u :: r => exact .inr (.inr ⟨fun _ _ _ _ _ _ => rfl, fun _ _ _ _ => rfl⟩)
  | .api x y z :: u :: r => exact .inr (.inr ⟨fun _ _ _ _ _ _ => rfl, fun _ _ _ _ => rfl⟩)
theorem ap_ps (O : XOk T G C k B X) {i kk : Nat} {s : TL.D} {st : Stmt} (h : mAp G i kk s B st = true) : PS X st (tDrop (tAp T C (wrOf G) X.K i kk s)) := by
  unfold mAp at h
  split at h
  · rename_i y q0 c q1 q2 q3 m p a q q4
    obtain ⟨h, h6⟩ := and2 h
    obtain ⟨h, h5⟩ := and2 h
    obtain ⟨h, h4⟩ := and2 h
    obtain ⟨h, h3⟩ := and2 h
    obtain ⟨h1, h2⟩ := and2 h
    have e := dec h2
    subst e
    have px : PE X (.Subscript (.Name y q0) (.Constant c q1 q2) q3) (tOp (rIxL X.K) (tVar i) (tI T (ev C (wrOf G) (.k (.int kk))))) := pe_ix ix_list (O.var h1) (sE _ O h5).1 (plainIx rfl)
    exact ps_expr (pe_bm F.plainAttrs_list F.slot_list_append F.type_list_append mt_append px (pa_cons' (sE _ O h6).1 (nt h4) pa_nil) rfl (by rw [star_cons (nt h4)]; rfl) h3 (star_cons (nt h4) _ X.env) rfl) (sw_no rfl)
  · cases h
theorem line_ps (O : XOk T G C k B X) {i : Nat} {ts : List Tst} {st : Stmt} (h : mLine G i ts B st = true) : PS X st (tLine T G C X.K k i ts) := by
  rcases line_cases ts with ⟨kk, s, rfl⟩ | ⟨x, kk, s, rfl⟩ | ⟨e1, e2⟩
  · exact ap_ps O h
  · have h : mApi G i x kk s B st = true := h
    unfold mApi at h
    split at h
    · obtain ⟨h, h3⟩ := and2 h
      obtain ⟨h1, h2⟩ := and2 h
      exact ps_if ((sE x O h2).2 h1) (pss_cons (ap_ps O h3) pss_nil) pss_nil
    · cases h
  · rw [e1]
    rw [e2] at h
    exact ifs_ps O h
def tTells (T : Th) (G : List Fn) (C : Calls) (K : PySem.W.Frag) (k i : Nat) : List (List Tst) → TS → TS
  | [], t => t
  | ts :: r, t => tSeq (tLine T G C K k i ts) (tTells T G C K k i r t)
theorem tells_pss (O : XOk T G C k B X) {i : Nat} {t : TS} : ∀ {tss : List (List Tst)} {l l' : List Stmt}, mTells G i tss B l = some l' → PSs X l' t → PSs X l (tTells T G C X.K k i tss t)
  | [], l, l', h, q => by
    have h : some l = some l' := h
    cases h
    exact q
  | ts :: r, [], l', h, q => nomatch h
  | ts :: r, st :: l, l', h, q => by
    have h : (if mLine G i ts B st = true then mTells G i r B l else none) = some l' := h
    by_cases c : mLine G i ts B st = true
    · rw [if_pos c] at h
      exact pss_cons (line_ps O c) (tells_pss O h q)
    · rw [if_neg c] at h; cases h
theorem PsS.okv {α β : Type} {Ws : Addr → Prop} {σs : L2.St} {gs : Gv} {Hs : Hp} {R : β → Gv → (Addr → Prop) → L2.St → Hp → Prop} {f : α → Gv → Rs β} {a : α} {g : Gv} {r : Rs α} (e : r = .ok a g) (h : PsS T Ws σs gs Hs R (r.bind f)) : PsS T Ws σs gs Hs R (f a g) := by
  subst e
  exact h
section
variable {i : Nat} {Ws : Addr → Prop} {σs σ : L2.St} {gs : Gv} {Hs : Hp} {R : Fl → Gv → (Addr → Prop) → L2.St → Hp → Prop} {f : Option TL.D → Gv → Rs Fl} {Q : Bool → Hp → Prop}
theorem one_tst (O : XOk T G C k B X) {t : Tst} {e : Expr} (hm : mTst G i t B e = true) {r : List Tst} {st : Option TL.D} {W : Addr → Prop} {g : Gv} {H : Hp} (tl : Tell i st Ws σs gs Hs W σ g H) (hi : i < g.length) (h : PsS T Ws σs gs Hs R ((tstR C (wrOf G) i (t :: r) st g).bind f))
    (hq : ∀ st' W' g' H', Tell i st' Ws σs gs Hs W' σ g' H' → i < g'.length → PsS T Ws σs gs Hs R ((tstR C (wrOf G) i r st' g').bind f) → Q false H') : tOne T G C k i t σ H Q := by
  cases t with
  | pl x =>
    have h : PsS T Ws σs gs Hs R (((ev C (wrOf G) x g).bind fun a g => br (tst a g) .bad (tstR C (wrOf G) i r st g)).bind f) := h
    refine ⟨W, g, tl.G, ?_⟩
    cases e : ev C (wrOf G) x g with
    | bad => rw [e] at h; exact h
    | ex c fs g' =>
      rw [e] at h
      exact fun cls d H' W' s' G' xr => h cls d σ H' W' (tl.s.trans tl.wok s') G' xr
    | ok a g' =>
      rw [e] at h
      intro H' W' s' G'
      have h : PsS T Ws σs gs Hs R ((br (tst a g') .bad (tstR C (wrOf G) i r st g')).bind f) := h
      cases q : tst a g' with
      | none => rw [q] at h; exact h.elim
      | some b =>
        rw [q] at h
        cases b with
        | true => exact h.elim
        | false => exact ⟨false, rfl, hq st W' g' H' (tl.step s' G') (by rw [G'.len, ← tl.G.len]; exact hi) h⟩
  | rd x =>
    cases st with
    | none => exact h.elim
    | some d =>
      have h : PsS T Ws σs gs Hs R ((match ev C (wrOf G) x ((frz [] g).set i (.sh d)) with
        | .ok (.val (.bool false) _) _ => tstR C (wrOf G) i r (some d) g
        | _ => .bad).bind f) := h
      obtain ⟨P, Gv', nm⟩ := tl.view hi
      refine ⟨less W P, _, Gv', ?_⟩
      split at h
      · rename_i own g' e
        rw [e]
        intro H' W' s' G'
        exact ⟨false, rfl, hq (some d) W g H' (tl.same fun b x eb => s'.keep b x eb (nm b)) hi h⟩
      · exact h.elim
  | mk fn =>
    cases st with
    | none => exact h.elim
    | some d =>
      have h : PsS T Ws σs gs Hs R ((match C fn [.sh nest3] with
        | .bad => (Rs.bad : Rs (Option TL.D))
        | _ => if (markD d && decide (d.depth ≤ 3)) = true then tstR C (wrOf G) i r none g else .bad).bind f) := h
      have nb : C fn [.sh nest3] ≠ .bad := fun z => by rw [z] at h; exact h
      have h : PsS T Ws σs gs Hs R ((if (markD d && decide (d.depth ≤ 3)) = true then tstR C (wrOf G) i r none g else .bad).bind f) := by
        split at h
        · exact h.elim
        · exact h
      by_cases c : (markD d && decide (d.depth ≤ 3)) = true
      · rw [if_pos c] at h
        rw [Bool.and_eq_true, decide_eq_true_eq] at c
        obtain ⟨a, L, ha, dq, rp, fr⟩ := tl.tr d rfl
        have hk : 3 < k := by
          cases e <;> first | (cases hm; done) | skip
          rename_i u a2 p
          cases u <;> cases a2 <;> first | (cases hm; done) | skip
          have h1 := (and2 hm).1
          unfold markF at h1
          cases eF : G[fn]? with
          | none => rw [eF] at h1; cases h1
          | some F =>
            rw [eF] at h1
            exact O.mlev fn F eF h1 nb
        refine ⟨.ref a, ha, ?_⟩
        exact ⟨.ref a, d, a :: L, rfl, dq, by omega, c.1, fun H' off nol => ⟨true, rfl, hq none W g H' (tl.marked fr off nol) hi h⟩⟩
      · rw [if_neg c] at h; exact h.elim
  | ap kk s => cases e <;> cases hm
  | api x kk s => cases e <;> cases hm
/-- told[k].append(s) -/
theorem ap_imp {K : PySem.W.Frag} {kk : Nat} {s : TL.D} {st : Option TL.D} {d' : TL.D} (h : apD kk s st = some d') {W : Addr → Prop} {g : Gv} {H : Hp} (tl : Tell i st Ws σs gs Hs W σ g H) {wr : Nat → Bool} {Q : VK} (hq : ∀ W' H', Tell i (some d') Ws σs gs Hs W' σ g H' → Q .non H') : tAp T C wr K i kk s σ H Q := by
  obtain ⟨ds, zs, rfl, ek, is, lz, rfl⟩ := apD_ok h
  obtain ⟨a, L, ha, dq, rp, fr⟩ := tl.tr _ rfl
  have f0 : TrF i (.list ds) σs gs Hs W σ g H a L := ⟨ha, dq, rp, fr⟩
  refine ⟨.ref a, ha, W, g, tl.G, ?_⟩
  intro H1 W1 s1 G1 y ry
  have ry : Rp W1 H1 y (.int kk) := ry
  cases ry
  obtain ⟨f1, _⟩ := tl.stepF f0 s1
  have tl1 := tl.step s1 G1
  have dq1 := f1.dq
  cases dq1 with
  | @lst _ xs _ _ l e1 q1 na =>
    obtain ⟨b, ys, hx, hb, eb, ly⟩ := DqA.at q1 ek
    refine ⟨a, xs, (kk : Int), .ref b, rfl, rfl, .inl (.inl e1), L2.atI_nat hx, .inl ⟨rfl, ys, .inl (.inl eb)⟩, ?_⟩
    refine ⟨W1, g, G1, ?_⟩
    intro H2 W2 s2 G2 u ru
    have ru : Rp W2 H2 u s := ru
    obtain ⟨f2, kp2⟩ := tl1.stepF f1 s2
    have tl2 := tl1.step s2 G2
    have e2 : H2 a = some (.lst xs) := kp2 a _ e1 (.inl List.mem_cons_self)
    have eb2 : H2 b = some (.lst ys) := kp2 b _ eb (.inl (List.mem_cons_of_mem _ hb))
    have q2 : DqA H2 xs ds L := DqA.keep ds xs L (fun c x ec hc => kp2 c x ec (hc.imp (List.mem_cons_of_mem _) id)) q1
    have ab : a ≠ b := fun z => na (z ▸ hb)
    have hbL : b ∈ a :: L := List.mem_cons_of_mem _ hb
    have offb : ∀ c x, H2 c = some x → c ≠ b → upd H2 b (.lst (ys ++ [u])) c = some x := fun c x ec n => by rw [upd_ne n]; exact ec
    have offT : ∀ c x, H2 c = some x → IsT x → upd H2 b (.lst (ys ++ [u])) c = some x := fun c x ec n => offb c x ec fun z => by
      rw [z, eb2] at ec
      cases ec
      exact n.no
    have e3 : upd H2 b (.lst (ys ++ [u])) a = some (.lst xs) := offb a _ e2 ab
    have rp2 := f2.rp
    cases rp2 with
    | lst nv l' r' qa =>
      have qa : RpA (less W2 fun b => b ∈ a :: L) H2 xs ds := by
        rcases r' with r' | ⟨o, r'⟩
        · rw [e2] at r'
          cases r'
          exact qa
        · rw [e2] at r'
          cases r'
      obtain ⟨p1, p2⟩ := DqA.put (V0 := less W2 fun b => b ∈ a :: L) eb2 (by rw [ly]; exact lz) is (imm_keep offT _ _ is (rp_zero ru)) (immV_keep offT _ _ is (rp_less ru)) upd_same offb (fun z => z.2 hbL) q2 qa hx ek
      have t3 := tl2.marked f2.fr (H' := upd H2 b (.lst (ys ++ [u]))) (fun c x ec n => offb c x ec fun z => n (z ▸ hbL)) (fun c ec => by
        by_cases z : c = b
        · rw [z, upd_same] at ec
          cases ec
        · rw [upd_ne z] at ec
          exact ec)
      refine ⟨b, ys, u, rfl, rfl, eb2, by rw [ly]; exact lz, hq W2 _ ⟨t3.wok, t3.G, t3.s, fun d e => ?_⟩⟩
      cases e
      exact ⟨a, L, f2.ad, .lst l e3 p1 na, .lst nv l (.inl e3) p2, f2.fr⟩
/-- one statement's tests are all false -/
theorem tsts_imp (O : XOk T G C k B X) : ∀ {ts : List Tst} {es : List Expr} {st : Option TL.D} {W : Addr → Prop} {g : Gv} {H : Hp}, ts ≠ [] → mTsts G i ts B es = true → Tell i st Ws σs gs Hs W σ g H → i < g.length → PsS T Ws σs gs Hs R ((tstR C (wrOf G) i ts st g).bind f) →
      (∀ st' W' g' H', Tell i st' Ws σs gs Hs W' σ g' H' → i < g'.length → PsS T Ws σs gs Hs R (f st' g') → Q false H') → tTsts T G C k i ts σ H Q
  | [], _, _, _, _, _, n, _, _, _, _, _ => absurd rfl n
  | [t], es, st, W, g, H, _, hm, tl, hi, h, hq => by
    cases es with
    | nil => cases hm
    | cons e es => exact one_tst O (and2 hm).1 tl hi h fun st' W' g' H' tl' hi' h' => hq st' W' g' H' tl' hi' h'
  | t :: u :: r, es, st, W, g, H, _, hm, tl, hi, h, hq => by
    cases es with
    | nil => cases hm
    | cons e es =>
      refine one_tst O (and2 hm).1 tl hi h fun st' W' g' H' tl' hi' h' => ?_
      show (if false = true then _ else _)
      rw [if_neg (by decide)]
      exact tsts_imp O (by simp) (and2 hm).2 tl' hi' h' hq
theorem mIfs_es {ts : List Tst} {st : Stmt} (h : mIfs G i ts B st = true) : ts ≠ [] ∧ ∃ es, mTsts G i ts B es = true := by
  cases st <;> first | (cases h; done) | skip
  rename_i c a b p
  cases b <;> first | (cases h; done) | skip
  cases ts with
  | nil => cases h
  | cons t ts =>
    refine ⟨by simp, ?_⟩
    cases ts with
    | nil => exact ⟨[c], by show (mTst G i t B c && true) = true; rw [Bool.and_true]; exact h⟩
    | cons u r =>
      cases c <;> first | (cases h; done) | skip
      rename_i o es p2
      cases o <;> first | (cases h; done) | skip
      exact ⟨es, h⟩
end
theorem tells_imp {i : Nat} {Ws : Addr → Prop} {σs σ : L2.St} {gs : Gv} {Hs : Hp} {D : Ends} {h0 : Gv → Rs Fl} (O : XOk T G C k B X) : ∀ {tss : List (List Tst)} {l l' : List Stmt} {st : Option TL.D} {W : Addr → Prop} {g : Gv} {H : Hp}, mTells G i tss B l = some l' → Tell i st Ws σs gs Hs W σ g H → i < g.length →
    PsS T Ws σs gs Hs (fun fl g' W' σ' H' => FlR σs gs Hs D W' σ' g' H' fl) ((ttR C (wrOf G) i tss st g).bind fun _ g => h0 g) → tTells T G C X.K k i tss (tS T h0) D σ H
  | [], l, l', st, W, g, H, _, tl, hi, h => by
    have h : PsS T Ws σs gs Hs (fun fl g' W' σ' H' => FlR σs gs Hs D W' σ' g' H' fl) (h0 g) := h
    exact ⟨W, g, tl.G, (PsS.from tl.wok h tl.s).mono fun fl g' W' σ' H' _ _ _ q => q.move tl.s⟩
  | ts :: r, [], l', st, W, g, H, hm, tl, hi, h => nomatch hm
  | ts :: r, s0 :: l, l', st, W, g, H, hm, tl, hi, h => by
    have hm2 : (if mLine G i ts B s0 = true then mTells G i r B l else none) = some l' := hm
    by_cases c : mLine G i ts B s0 = true
    · rw [if_pos c] at hm2
      have h : PsS T Ws σs gs Hs (fun fl g' W' σ' H' => FlR σs gs Hs D W' σ' g' H' fl) ((tstR C (wrOf G) i ts st g).bind fun st g => (ttR C (wrOf G) i r st g).bind fun _ g => h0 g) := by
        have e : (ttR C (wrOf G) i (ts :: r) st g).bind (fun _ g => h0 g) = (tstR C (wrOf G) i ts st g).bind fun st g => (ttR C (wrOf G) i r st g).bind fun _ g => h0 g := by
          show ((tstR C (wrOf G) i ts st g).bind fun st g => ttR C (wrOf G) i r st g).bind (fun _ g => h0 g) = _
          cases tstR C (wrOf G) i ts st g <;> rfl
        rw [e] at h
        exact h
      rcases line_cases ts with ⟨kk, s, rfl⟩ | ⟨x, kk, s, rfl⟩ | ⟨e1, e2⟩
      · have h : PsS T Ws σs gs Hs (fun fl g' W' σ' H' => FlR σs gs Hs D W' σ' g' H' fl) ((match apD kk s st with
          | none => (Rs.bad : Rs (Option TL.D))
          | some d => .ok (some d) g).bind fun st g => (ttR C (wrOf G) i r st g).bind fun _ g => h0 g) := h
        cases ea : apD kk s st with
        | none => rw [ea] at h; exact h.elim
        | some d' =>
          rw [ea] at h
          exact ap_imp (K := X.K) ea tl fun W' H' tl' => tells_imp O hm2 tl' hi h
      · have c : mApi G i x kk s B s0 = true := c
        have h : PsS T Ws σs gs Hs (fun fl g' W' σ' H' => FlR σs gs Hs D W' σ' g' H' fl) (((ev C (wrOf G) x g).bind fun a g => br (tst a g) (match apD kk s st with
          | none => (Rs.bad : Rs (Option TL.D))
          | some d => .ok (some d) g) (.ok st g)).bind fun st g => (ttR C (wrOf G) i r st g).bind fun _ g => h0 g) := h
        refine ⟨W, g, tl.G, ?_⟩
        cases e : ev C (wrOf G) x g with
        | bad => rw [e] at h; exact h
        | ex cc fs g' =>
          rw [e] at h
          exact fun cls d H' W' s' G' xr => h cls d σ H' W' (tl.s.trans tl.wok s') G' xr
        | ok a g' =>
          rw [e] at h
          intro H' W' s' G'
          have hi' : i < g'.length := by rw [G'.len, ← tl.G.len]; exact hi
          have h : PsS T Ws σs gs Hs (fun fl g' W' σ' H' => FlR σs gs Hs D W' σ' g' H' fl) ((br (tst a g') (match apD kk s st with
            | none => (Rs.bad : Rs (Option TL.D))
            | some d => .ok (some d) g') (.ok st g')).bind fun st g => (ttR C (wrOf G) i r st g).bind fun _ g => h0 g) := h
          cases q : tst a g' with
          | none => rw [q] at h; exact h.elim
          | some b =>
            rw [q] at h
            cases b with
            | false => exact ⟨false, rfl, tells_imp O hm2 (tl.step s' G') hi' h⟩
            | true =>
              have h : PsS T Ws σs gs Hs (fun fl g' W' σ' H' => FlR σs gs Hs D W' σ' g' H' fl) ((match apD kk s st with
                | none => (Rs.bad : Rs (Option TL.D))
                | some d => .ok (some d) g').bind fun st g => (ttR C (wrOf G) i r st g).bind fun _ g => h0 g) := h
              cases ea : apD kk s st with
              | none => rw [ea] at h; exact h.elim
              | some d' =>
                rw [ea] at h
                exact ⟨true, rfl, ap_imp (K := X.K) ea (tl.step s' G') fun W2 H2 tl' => tells_imp O hm2 tl' hi' h⟩
      · rw [e2] at c
        show tSeq (tLine T G C X.K k i ts) _ D σ H
        rw [e1]
        obtain ⟨n, es, he⟩ := mIfs_es c
        refine tsts_imp (f := fun st g => (ttR C (wrOf G) i r st g).bind fun _ g => h0 g) O n he tl hi h fun st' W' g' H' tl' hi' h' => ?_
        show (if false = true then _ else _)
        rw [if_neg (by decide)]
        exact tells_imp O hm2 tl' hi' h'
    · rw [if_neg c] at hm2; cases hm2
end
end TL
/-! TL26: every statement that passes the check is walked by the language's text. -/
namespace TL
open PySem PySem.Spec PyProof.Rows L2
variable [Plc]

section
variable (G : List Fn) (C : Calls) (k : Nat)
structure Pas (X : Cx) : Prop where
  own : PassesOwn (model X.prog X.w) X.A X.env X.xe
  st : X.stack = X.env :: X.outer
  fr : X.env.frame = some X.env.locals
  ex : X.ex = []
def SSt (s : S) : Prop := ∀ {T : Th} {B : BC} {X : Cx} {st : Stmt}, XOk T G C k B X → Pas X → mS G s B st = true → PS X st (tS T (ex C (wrOf G) s))
def SSs (s : Ss) : Prop := ∀ {T : Th} {B : BC} {X : Cx} {st : List Stmt}, XOk T G C k B X → Pas X → mSs G s B st = true → PSs X st (tS T (exs C (wrOf G) s))
end
section
variable {G : List Fn} {C : Calls} {k : Nat} {T : Th} {B : BC} {X : Cx}
theorem puts_one {i : Nat} {v : V} {σ : L2.St} {H : Hp} {Q : L2.St → Hp → Prop} : gNames [i] [v] σ H Q ↔ Q (σ.set i (some v)) H := by
  constructor
  · rintro ⟨u, r, e, e2, q⟩
    cases e
    exact q
  · intro q
    exact ⟨v, [], rfl, rfl, q⟩
theorem par2 {is : List Nat} {i j : Nat} (e : is = [i, j]) {vs : List V} {D : Ends} {σ : L2.St} {H : Hp} (h : gNames is vs σ H D.nx) : ∃ v w, vs = [v, w] ∧ D.nx ((σ.set i (some v)).set j (some w)) H := by
  subst e
  obtain ⟨v, r, e, w, r2, e2, e3, q⟩ := h
  subst e
  subst e2
  subst e3
  exact ⟨v, w, rfl, q⟩
theorem par3 {is : List Nat} {i j l : Nat} (e : is = [i, j, l]) {vs : List V} {D : Ends} {σ : L2.St} {H : Hp} (h : gNames is vs σ H D.nx) : ∃ u v w, vs = [u, v, w] ∧ D.nx (((σ.set i (some u)).set j (some v)).set l (some w)) H := by
  subst e
  obtain ⟨v, r, e, w, r2, e2, u, r3, e4, e3, q⟩ := h
  subst e
  subst e2
  subst e4
  subst e3
  exact ⟨v, w, u, rfl, q⟩
theorem st_at (O : XOk T G C k B X) {i : Nat} {x : Str} (h : stB B i x = true) : X.N[i]? = some x := (O.st h).1
theorem ne_at (O : XOk T G C k B X) {i j : Nat} {x y : Str} (hi : X.N[i]? = some x) (hj : X.N[j]? = some y) (n : x ≠ y) : i ≠ j := fun z => by
  subst z
  rw [hi] at hj
  exact n (Option.some.inj hj)
theorem XOk.lookL (O : XOk T G C k B X) {x : Str} (h : locB B x = true) : X.env.scope.names.lookup x = some .local := by
  rw [O.names]
  exact dec h
theorem stm_set {i : Nat} {x : E} : SSt G C k (.set i x) := by
  intro T B X st O hp h
  cases st <;> first | (cases h; done) | skip
  rename_i ts e p
  rcases ts with _ | ⟨t, _ | ⟨t2, ts⟩⟩ <;> first | (cases h; done) | (cases t <;> cases h; done) | skip
  cases t <;> first | (cases h; done) | skip
  rename_i t p'
  obtain ⟨h1, h2⟩ := and2 h
  obtain ⟨h1, hnk⟩ := and2 h1
  obtain ⟨s1, s2, s3⟩ := O.st h1
  have fin : ∀ D σ H, tS T (ex C (wrOf G) (.set i x)) D σ H → tAsg (tI T (ev C (wrOf G) x)) (gName i) D σ H := fun _ _ _ q => set_imp (f := ev C (wrOf G) x) q
  by_cases c : comp? e = true
  · cases e <;> first | (cases c; done) | skip
    · rename_i elt gens scope q
      cases sw : (X.env.blockKind == .function && X.env.kindOf t == some .local && p'.line == q.line && !(scope.names.any fun (n, k) => n == t && (k == .local || k == .cell))) with
      | false => exact (ps_set O.nd s1 s2 (sE x O h2).1 (by rw [sw_lc, sw]) s3).imp fin
      | true =>
        have hl : X.env.scope.names.lookup t = some .local := eq_of_beq (and2 (and2 (and2 sw).1).1).2
        cases x <;> first | (cases h2; done) | (cases hnk; done) | (exact ⟨fun _ _ _ _ _ _ ⟨_, _, _, h⟩ => h.elim⟩) | skip
        rename_i vs tg it cs x
        rcases gens with _ | ⟨⟨g1, g2, ifs, z⟩, _ | ⟨g3, gens⟩⟩ <;> first | (cases h2; done) | skip
        obtain ⟨h, h8⟩ := and2 h2
        obtain ⟨h, h7⟩ := and2 h
        obtain ⟨h, h6⟩ := and2 h
        obtain ⟨h, h5⟩ := and2 h
        obtain ⟨h, h4⟩ := and2 h
        obtain ⟨h, h3⟩ := and2 h
        obtain ⟨hb1, hb2⟩ := and2 h
        have e := dec hb1
        subst e
        have ok := blk_of O hb2
        refine (ps_setLc (g := tgR X.K tg) (tt := tTb (T0 T) (evTs C (wrOf G) cs)) (te := tI (T0 T) (ev C (wrOf G) x)) O.calm O.nd s1 hl (by rw [sw_lc, sw]) (sIt it O h6) ok (fun s H A cl fp => pg_tg (blk_ok O ok.kind s H cl A fp) h5) (fun s H A cl fp => pts_of (blk_ok O ok.kind s H cl A fp) (sEs cs) h7)
          (fun s H A cl fp => (sE x (blk_ok O ok.kind s H cl A fp) h8).1) (fold_no (nt h3))).imp fun D σ H q => ?_
        have q := fin _ _ _ q
        rw [ownL_snd]
        exact lc_imp (fi := evIt C (wrOf G) it) (ft := evTs C (wrOf G) cs) (fx := ev C (wrOf G) x) (rng := it.isRng) (fun j hj => List.contains_iff_mem.mp (List.all_eq_true.mp h4 j hj)) q
    · cases x <;> first | (cases h2; done) | (exact ⟨fun _ _ _ _ _ _ ⟨_, _, _, h⟩ => h.elim⟩)
    · cases x <;> first | (cases h2; done) | (exact ⟨fun _ _ _ _ _ _ ⟨_, _, _, h⟩ => h.elim⟩)
  · exact (ps_set O.nd s1 s2 (sE x O h2).1 (sw_no (by simpa using c)) s3).imp fin
theorem stm_unp {is : List Nat} {x : E} : SSt G C k (.unp is x) := by
  intro T B X st O hp h
  cases st <;> first | (cases h; done) | skip
  rename_i ts e p
  rcases ts with _ | ⟨t, _ | ⟨t2, ts⟩⟩ <;> first | (cases h; done) | (cases t <;> cases h; done) | skip
  cases t <;> first | (cases h; done) | skip
  rename_i elts kk qq
  obtain ⟨h, h3⟩ := and2 h
  obtain ⟨h1, h2⟩ := and2 h
  have h1 : mTg B (.tp is) (.Tuple elts kk qq) = true := h1
  exact (ps_asg (sE x O h3).1 (pg_tg (tg := .tp is) O h1) sole_tup (stores_tup h2) rfl).imp fun _ _ _ q => unp_imp (f := ev C (wrOf G) x) q
theorem stm_par {is : List Nat} {es : Es} : SSt G C k (.par is es) := by
  intro T B X st O hp h
  cases st <;> first | (cases h; done) | skip
  rename_i ts e p
  obtain ⟨ts, k1, p1, vs, k2, p2, rfl, rfl, h1, h2, h3, h4⟩ := mPar_inv h
  have pa := pa_of O (sEs es) h4 h3
  have par : ∀ D σ H, tS T (ex C (wrOf G) (.par is es)) D σ H → tIs T (evs C (wrOf G) es) σ H fun vs H1 => gNames is vs σ H1 D.nx := fun D σ H q => par_imp (f := evs C (wrOf G) es) q
  rcases parOk_inv h2 with ⟨x, px, y, py, a, b, rfl, rfl⟩ | ⟨x, px, y, py, z, pz, a, b, c, rfl, rfl⟩
  · rcases is with _ | ⟨i, _ | ⟨j, _ | ⟨l, is⟩⟩⟩ <;> first | (cases h1; done) | (cases (and2 h1).2; done) | (cases (and2 (and2 h1).2).2; done) | skip
    obtain ⟨m1, m2⟩ := and2 h1
    obtain ⟨m2, _⟩ := and2 m2
    have sw := stores_two (k1 := k1) (k2 := k2) (p1 := p1) (p2 := p2) O h2 h3
    obtain ⟨h, q6⟩ := and2 h2
    obtain ⟨h, q5⟩ := and2 h
    obtain ⟨h, q4⟩ := and2 h
    obtain ⟨h, q3⟩ := and2 h
    obtain ⟨q1, q2⟩ := and2 h
    exact (ps_par O.calm O.nd (st_at O m1) (st_at O m2) (ne_at O (st_at O m1) (st_at O m2) (dec q4)) (O.lookL q1) (O.lookL q2) pa sw sole_tup).imp fun D σ H q => by
      obtain ⟨W, g, G', z⟩ := par D σ H q
      exact ⟨W, g, G', z.mono fun _ _ _ _ _ _ _ z vs p => par2 rfl (z vs p)⟩
  · rcases is with _ | ⟨i, _ | ⟨j, _ | ⟨l, _ | ⟨l2, is⟩⟩⟩⟩ <;> first | (cases h1; done) | (cases (and2 h1).2; done) | (cases (and2 (and2 h1).2).2; done) | (cases (and2 (and2 (and2 h1).2).2).2; done) | skip
    obtain ⟨m1, m2⟩ := and2 h1
    obtain ⟨m2, m3⟩ := and2 m2
    obtain ⟨m3, _⟩ := and2 m3
    have sw := stores_three (k1 := k1) (k2 := k2) (p1 := p1) (p2 := p2) O h2 h3
    obtain ⟨h, q10⟩ := and2 h2
    obtain ⟨h, q9⟩ := and2 h
    obtain ⟨h, q8⟩ := and2 h
    obtain ⟨h, q7⟩ := and2 h
    obtain ⟨h, q6⟩ := and2 h
    obtain ⟨h, q5⟩ := and2 h
    obtain ⟨h, q4⟩ := and2 h
    obtain ⟨h, q3⟩ := and2 h
    obtain ⟨q1, q2⟩ := and2 h
    exact (ps_par3 O.calm O.nd (st_at O m1) (st_at O m2) (st_at O m3) (ne_at O (st_at O m1) (st_at O m2) (dec q6)) (ne_at O (st_at O m1) (st_at O m3) (dec q7)) (ne_at O (st_at O m2) (st_at O m3) (dec q8)) (O.lookL q1) (O.lookL q2) (O.lookL q3) pa sw sole_tup).imp fun D σ H q => by
      obtain ⟨W, g, G', z⟩ := par D σ H q
      exact ⟨W, g, G', z.mono fun _ _ _ _ _ _ _ z vs p => par3 rfl (z vs p)⟩
theorem stm_sto {i : Nat} {y x : E} : SSt G C k (.sto i y x) := by
  intro T B X st O hp h
  cases st <;> first | (cases h; done) | skip
  rename_i ts e p
  rcases ts with _ | ⟨t, _ | ⟨t2, ts⟩⟩ <;> first | (cases h; done) | (cases t <;> first | (cases h; done) | (rename_i o _ _; cases o <;> cases h; done)) | skip
  cases t <;> first | (cases h; done) | skip
  rename_i o ix p1
  cases o <;> first | (cases h; done) | skip
  rename_i n p2
  obtain ⟨h, h4⟩ := and2 h
  obtain ⟨h, h3⟩ := and2 h
  obtain ⟨h1, h2⟩ := and2 h
  have s := nt h2
  exact (ps_asg (sE x O h4).1 (pg_sub (O.var h1) (sE y O h3).1 set_list (fun v => by cases ix <;> first | rfl | cases s)) sole_sub stores_sub rfl).imp fun _ _ _ q => sto_imp (fx := ev C (wrOf G) x) (fy := ev C (wrOf G) y) q
theorem stm_sto2 {i j : Nat} {y z : E} {es : Es} : SSt G C k (.sto2 i y j z es) := by
  intro T B X st O hp h
  cases st <;> first | (cases h; done) | skip
  rename_i ts e p
  obtain ⟨n, pn, ix, p1, m, pm, iz, p2, k1, q1, a, b, k2, q2, rfl, rfl, h⟩ := mSto2_inv h
  obtain ⟨h, h4⟩ := and2 h
  obtain ⟨h, h3⟩ := and2 h
  obtain ⟨h1, h2⟩ := and2 h
  obtain ⟨h1, y3⟩ := and2 h1
  obtain ⟨y1, y2⟩ := and2 h1
  obtain ⟨h2, z3⟩ := and2 h2
  obtain ⟨z1, z2⟩ := and2 h2
  have s1 := nt y2
  have s2 := nt z2
  have g1 : PG X (.Subscript (.Name n pn) ix p1) (gSub (tVar i) (tI T (ev C (wrOf G) y)) rSetL) := pg_sub (O.var y1) (sE y O y3).1 set_list (fun v => by cases ix <;> first | rfl | cases s1)
  have g2 : PG X (.Subscript (.Name m pm) iz p2) (gSub (tVar j) (tI T (ev C (wrOf G) z)) rSetL) := pg_sub (O.var z1) (sE z O z3).1 set_list (fun v => by cases iz <;> first | rfl | cases s2)
  have gg := pgs_cons g1 (pgs_cons g2 pgs_nil rfl) rfl
  exact (ps_asg (pe_tup (pa_of O (sEs es) h4 h3)) (pg_tup (k := k1) (pos := q1) O.calm gg rfl rfl) sole_tup stores_subs rfl).imp fun _ _ _ q => sto2_imp (K := X.K) (f := evs C (wrOf G) es) (fy := ev C (wrOf G) y) (fz := ev C (wrOf G) z) q
theorem stm_parO {is : List Nat} {es : Es} : SSt G C k (.parO is es) := by
  intro T B X st O hp h
  cases st <;> first | (cases h; done) | skip
  rename_i ts e p
  by_cases ht : mParT G is es B ts e = true
  · obtain ⟨ts, k1, p1, vs, k2, p2, rfl, rfl, h1, h2, h3, h4⟩ := mParT_inv ht
    obtain ⟨h1, h5⟩ := and2 h1
    have h1' : mTg B (.tp is) (.Tuple ts k1 p1) = true := h1
    exact (ps_asg (pe_tup (pa_of O (sEs es) h4 h3)) (pg_tg (tg := .tp is) O h1') sole_tup (stores_none O h2) rfl).imp fun _ _ _ q => parT_imp (f := evs C (wrOf G) es) (dec h5) q
  have h : mPar G is es B ts e = true := by
    have h : (mPar G is es B ts e || mParT G is es B ts e) = true := h
    rw [Bool.not_eq_true] at ht
    rw [ht, Bool.or_false] at h
    exact h
  obtain ⟨ts, k1, p1, vs, k2, p2, rfl, rfl, h1, h2, h3, h4⟩ := mPar_inv h
  have pa := pa_of O (sEs es) h4 h3
  have par : ∀ D σ H, tS T (ex C (wrOf G) (.parO is es)) D σ H → tIs T (evs C (wrOf G) es) σ H fun vs H1 => gNames is vs σ H1 D.nx := fun D σ H q => parO_imp (f := evs C (wrOf G) es) q
  rcases parOk_inv h2 with ⟨x, px, y, py, a, b, rfl, rfl⟩ | ⟨x, px, y, py, z, pz, a, b, c, rfl, rfl⟩
  · rcases is with _ | ⟨i, _ | ⟨j, _ | ⟨l, is⟩⟩⟩ <;> first | (cases h1; done) | (cases (and2 h1).2; done) | (cases (and2 (and2 h1).2).2; done) | skip
    obtain ⟨m1, m2⟩ := and2 h1
    obtain ⟨m2, _⟩ := and2 m2
    have sw := stores_two (k1 := k1) (k2 := k2) (p1 := p1) (p2 := p2) O h2 h3
    obtain ⟨h, q6⟩ := and2 h2
    obtain ⟨h, q5⟩ := and2 h
    obtain ⟨h, q4⟩ := and2 h
    obtain ⟨h, q3⟩ := and2 h
    obtain ⟨q1, q2⟩ := and2 h
    exact (ps_par O.calm O.nd (st_at O m1) (st_at O m2) (ne_at O (st_at O m1) (st_at O m2) (dec q4)) (O.lookL q1) (O.lookL q2) pa sw sole_tup).imp fun D σ H q => by
      obtain ⟨W, g, G', z⟩ := par D σ H q
      exact ⟨W, g, G', z.mono fun _ _ _ _ _ _ _ z vs p => par2 rfl (z vs p)⟩
  · rcases is with _ | ⟨i, _ | ⟨j, _ | ⟨l, _ | ⟨l2, is⟩⟩⟩⟩ <;> first | (cases h1; done) | (cases (and2 h1).2; done) | (cases (and2 (and2 h1).2).2; done) | (cases (and2 (and2 (and2 h1).2).2).2; done) | skip
    obtain ⟨m1, m2⟩ := and2 h1
    obtain ⟨m2, m3⟩ := and2 m2
    obtain ⟨m3, _⟩ := and2 m3
    have sw := stores_three (k1 := k1) (k2 := k2) (p1 := p1) (p2 := p2) O h2 h3
    obtain ⟨h, q10⟩ := and2 h2
    obtain ⟨h, q9⟩ := and2 h
    obtain ⟨h, q8⟩ := and2 h
    obtain ⟨h, q7⟩ := and2 h
    obtain ⟨h, q6⟩ := and2 h
    obtain ⟨h, q5⟩ := and2 h
    obtain ⟨h, q4⟩ := and2 h
    obtain ⟨h, q3⟩ := and2 h
    obtain ⟨q1, q2⟩ := and2 h
    exact (ps_par3 O.calm O.nd (st_at O m1) (st_at O m2) (st_at O m3) (ne_at O (st_at O m1) (st_at O m2) (dec q6)) (ne_at O (st_at O m1) (st_at O m3) (dec q7)) (ne_at O (st_at O m2) (st_at O m3) (dec q8)) (O.lookL q1) (O.lookL q2) (O.lookL q3) pa sw sole_tup).imp fun D σ H q => by
      obtain ⟨W, g, G', z⟩ := par D σ H q
      exact ⟨W, g, G', z.mono fun _ _ _ _ _ _ _ z vs p => par3 rfl (z vs p)⟩
theorem stm_stoD {i : Nat} {y x : E} : SSt G C k (.stoD i y x) := by
  intro T B X st O hp h
  cases st <;> first | (cases h; done) | skip
  rename_i ts e p
  rcases ts with _ | ⟨t, _ | ⟨t2, ts⟩⟩ <;> first | (cases h; done) | (cases t <;> first | (cases h; done) | (rename_i o _ _; cases o <;> cases h; done)) | skip
  cases t <;> first | (cases h; done) | skip
  rename_i o ix p1
  cases o <;> first | (cases h; done) | skip
  rename_i n p2
  obtain ⟨h, h4⟩ := and2 h
  obtain ⟨h, h3⟩ := and2 h
  obtain ⟨h1, h2⟩ := and2 h
  have s := nt h2
  exact (ps_asg (sE x O h4).1 (pg_sub (O.var h1) (sE y O h3).1 (set_dict (by have := Room.u65 O.room; omega)) (fun v => by cases ix <;> first | rfl | cases s)) sole_sub stores_sub rfl).imp fun _ _ _ q => stoD_imp (fx := ev C (wrOf G) x) (fy := ev C (wrOf G) y) q
theorem stm_ex {x : E} : SSt G C k (.ex x) := by
  intro T B X st O hp h
  cases st <;> first | (cases h; done) | skip
  obtain ⟨h1, h2⟩ := and2 h
  exact (ps_expr (sE x O h2).1 (sw_no (nt h1))).imp fun _ _ _ q => drop_imp (f := ev C (wrOf G) x) q
theorem stm_ret {x : E} : SSt G C k (.ret x) := by
  intro T B X st O hp h
  cases st <;> first | (cases h; done) | skip
  rename_i e p
  cases e <;> first | (cases h; done) | skip
  exact (ps_ret (sE x O h).1).imp fun _ _ _ q => ret_imp (f := ev C (wrOf G) x) q
theorem stm_retn : SSt G C k .retn := by
  intro T B X st O hp h
  cases st <;> first | (cases h; done) | skip
  rename_i e p
  cases e <;> first | (cases h; done) | skip
  exact ps_retN.imp fun _ _ _ q => retn_imp q
theorem stm_ife {c : E} {p q : Ss} (hp' : SSs G C k p) (hq' : SSs G C k q) : SSt G C k (.ife c p q) := by
  intro T B X st O hp h
  cases st <;> first | (cases h; done) | skip
  obtain ⟨h, h4⟩ := and2 h
  obtain ⟨h, h3⟩ := and2 h
  obtain ⟨h1, h2⟩ := and2 h
  exact (ps_if ((sE c O h2).2 h1) (hp' O hp h3) (hq' O hp h4)).imp fun _ _ _ z => ife_stm (fc := ev C (wrOf G) c) (fa := exs C (wrOf G) p) (fb := exs C (wrOf G) q) z
theorem stm_wh {c : E} {p : Ss} (hp' : SSs G C k p) : SSt G C k (.wh c p) := by
  intro T B X st O hp h
  cases st <;> first | (cases h; done) | skip
  rename_i c' a o pos
  cases o <;> first | (cases h; done) | skip
  obtain ⟨h, h3⟩ := and2 h
  obtain ⟨h1, h2⟩ := and2 h
  exact (ps_while hp.own ((sE c O h2).2 h1) (hp' O hp h3)).imp fun _ _ _ z => whR_imp (ft := ev C (wrOf G) c) (fb := exs C (wrOf G) p) z
theorem stm_for {tg : Tg} {it : It} {p : Ss} (hp' : SSs G C k p) : SSt G C k (.for_ tg it p) := by
  intro T B X st O hp h
  cases st <;> first | (cases h; done) | skip
  rename_i t i a o pos
  cases o <;> first | (cases h; done) | skip
  obtain ⟨h, h4⟩ := and2 h
  obtain ⟨h, h3⟩ := and2 h
  obtain ⟨h1, h2⟩ := and2 h
  exact (ps_for hp.own O.calm (sIt it O h3) (pg_tg O h2) (hp' O hp h4) (fold_no (nt h1))).imp fun _ _ _ z => for_imp (fi := evIt C (wrOf G) it) (fb := exs C (wrOf G) p) z
theorem stm_brk : SSt G C k .brk := by
  intro T B X st O hp h
  cases st <;> first | (cases h; done) | skip
  exact ps_break.imp fun _ _ _ q => brk_imp q
theorem stm_cont : SSt G C k .cont := by
  intro T B X st O hp h
  cases st <;> first | (cases h; done) | skip
  exact ps_continue.imp fun _ _ _ q => cont_imp q
theorem stm_pass : SSt G C k .pass := by
  intro T B X st O hp h
  cases st <;> first | (cases h; done) | skip
  · rename_i e p
    cases e <;> first | (cases h; done) | skip
    rename_i c j q
    cases c <;> first | (cases h; done) | skip
    exact ps_doc.imp fun _ _ _ q => skip_imp q
  · exact ps_pass.imp fun _ _ _ q => skip_imp q
/-! ### raise -/
theorem clName_at {c : Nat} {x : Str} (h : clName G c x = true) : ∃ F cs, G[c]? = some F ∧ F.name = x ∧ F.cl = some cs := by
  unfold clName at h
  split at h
  · rename_i F e
    obtain ⟨h1, h2⟩ := and2 h
    obtain ⟨cs, h3⟩ := Option.isSome_iff_exists.mp h2
    exact ⟨F, cs, e, dec h1, h3⟩
  · cases h
theorem rse_imp {f : Gv → Rs Op} {c : Nat} {D0 C0 : Addr} {K : PySem.W.Frag} (hx : T.xr = xrP) (ca : Plc.ca c C0) {D : Ends} {σ : L2.St} {H : Hp} (h : tS T (fun g => (f g).bind fun a g => finRse c a g) D σ H) :
    tMkI K D0 C0 (tCons (tI T f) tNil) σ H fun cls d H' => T.wx cls d σ H' := by
  obtain ⟨W, g, Gk, h⟩ := h
  refine ⟨W, g, Gk, (PsS.expr h).mono fun a g1 W1 H1 _ s1 G1 h1 v r => ?_⟩
  refine ⟨v, rfl, fun ad dd na nd ne => ?_⟩
  have nW : ∀ {W2 : Addr → Prop}, (∀ b, W2 b → ∃ o, H1 b = some o) → ¬ W2 dd := fun wok w => by
    obtain ⟨o, e⟩ := wok dd w
    rw [nd] at e; cases e
  cases a with
  | slot i => exact h1.elim
  | val d own =>
    have sm := same_upd (o := .xd [("value", v)]) nd
    cases own with
    | false => exact h1 (.ref C0) (some dd) σ _ W1 (s1.trans Gk.wok (stp_new sm)) (eok_new G1 sm) (by rw [hx]; exact ⟨C0, dd, v, d, rfl, rfl, ca, nW G1.wok, upd_same, rfl, (stp_new sm).rp G1 r⟩)
    | true =>
      obtain ⟨b, e, w, q, n, f⟩ := r
      have G2 := eok_less G1 (P := fun x => x = b) (fun x hx => hx ▸ n)
      have s2 := stp_less Gk s1 (P := fun x => x = b) (fun x hx => hx ▸ f)
      have r2 : Rp (less W1 fun x => x = b) H1 v d := by
        subst e
        exact Own.give (fun z => z.2 rfl) (Own.mono (fun _ _ e _ => e) sub_less (fun _ e => e) q)
      exact h1 (.ref C0) (some dd) σ _ _ (s2.trans Gk.wok (stp_new sm)) (eok_new G2 sm) (by rw [hx]; exact ⟨C0, dd, v, d, rfl, rfl, ca, nW G2.wok, upd_same, rfl, (stp_new sm).rp G2 r2⟩)
theorem stm_rse {c : Nat} {x : E} : SSt G C k (.rse c x) := by
  intro T B X st O hp h
  cases st <;> first | (cases h; done) | skip
  rename_i e cz p
  cases cz <;> first | (cases h; done) | skip
  obtain ⟨n, pn, a, q, rfl, h⟩ := mRse_inv h
  obtain ⟨h, h4⟩ := and2 h
  obtain ⟨h, h3⟩ := and2 h
  obtain ⟨h1, h2⟩ := and2 h
  obtain ⟨F, cs, e1, e2, e3⟩ := clName_at h1
  subst e2
  obtain ⟨Cl, m, ca, ok, D0, fI, fd, o1, o2, no, iC, tI', hb, hF⟩ := O.cls c F cs e1 e3
  obtain ⟨gl, db, nm⟩ := O.gl h2
  exact (ps_raise O.calm O.takes (pmk_G (T := T) o1 o2 no iC tI' (hF 0) O.gd (O.room.mono (by omega)) hb O.takes gl m (pa_cons' (sE x O h4).1 (nt h3) pa_nil) db (star_cons (nt h3) [] X.env))).imp fun D σ H q => rse_imp (f := ev C (wrOf G) x) O.xrq ca q
/-! ### try -/
theorem unF_stp {W W1 : Addr → Prop} {σ σc : L2.St} {g g1 : Gv} {H H1 : Hp} {e : Nat} (G1 : EOk W1 H1 σc g1) (s : Stp W σ g H W1 σc g1 H1) (f : freeS g1[e]? = true) :
    EOk W1 H1 (σc.set e none) (g1.set e .un) ∧ Stp W σ g H W1 (σc.set e none) (g1.set e .un) H1 := by
  have nh : ∀ (t : Slot), g1[e]? = some t → t.hold = none := fun t et => by
    rw [et] at f
    cases t <;> first | rfl | cases f
  have oth : ∀ (j : Nat) (u : Slot), (g1.set e .un)[j]? = some u → u ≠ .un → e ≠ j ∧ g1[j]? = some u := fun j u ej nu => by
    rcases get_set ej with ⟨rfl, es⟩ | ⟨n, ej⟩
    · exact absurd es nu
    · exact ⟨n, ej⟩
  have hu : ∀ (u : Slot) (d : D), u.hold = some d → u ≠ .un := fun u d h z => by subst z; cases h
  have mu : ∀ (u : Slot), u.mut = true → u ≠ .un := fun u h z => by subst z; cases h
  have fwd : ∀ {j : Nat} {u : Slot} {d : D}, g1[j]? = some u → u.hold = some d → e ≠ j := fun {j u d} ej hd z => by
    subst z
    rw [nh u ej] at hd; cases hd
  refine ⟨⟨by rw [List.length_set, List.length_set]; exact G1.len, G1.wok, fun j d ej => ?_, fun j u d ej hd => ?_, fun j l u w a n e1 e2 m hd ha hb => ?_⟩, ⟨s.keep, s.there, s.w, s.wb, fun b m => ?_, fun j d ej => ?_, fun j d ej => ?_, fun j d ej => ?_⟩⟩
  · obtain ⟨n, ej⟩ := oth j _ ej (fun z => nomatch z)
    obtain ⟨v, ev, r⟩ := G1.sh j d ej
    exact ⟨v, by rw [List.getElem?_set_ne n]; exact ev, r⟩
  · obtain ⟨n, ej⟩ := oth j u ej (hu u d hd)
    obtain ⟨a, ha, z⟩ := G1.hd j u d ej hd
    exact ⟨a, by unfold ad; rw [List.getElem?_set_ne n]; exact ha, z⟩
  · obtain ⟨n1, e1⟩ := oth j u e1 (mu u m)
    obtain ⟨dd, hdd⟩ := hd
    obtain ⟨n2, e2⟩ := oth l w e2 (hu w dd hdd)
    unfold ad at ha hb
    rw [List.getElem?_set_ne n1] at ha
    rw [List.getElem?_set_ne n2] at hb
    exact G1.inj j l u w a n e1 e2 m ⟨dd, hdd⟩ ha hb
  · obtain ⟨j, t, ej, m, hb⟩ := m
    obtain ⟨n, ej⟩ := oth j t ej (mu t m)
    unfold ad at hb
    rw [List.getElem?_set_ne n] at hb
    exact s.ob b ⟨j, t, ej, m, hb⟩
  · obtain ⟨h1, h2⟩ := s.lf j d ej
    have n := fwd h1 (d := d) rfl
    exact ⟨by rw [List.getElem?_set_ne n]; exact h1, by rw [List.getElem?_set_ne n]; exact h2⟩
  · obtain ⟨n, ej⟩ := oth j _ ej (fun z => nomatch z)
    exact s.lb j d ej
  · obtain ⟨⟨d', h1⟩, h2⟩ := s.fx j d ej
    have n := fwd h1 (d := d') rfl
    exact ⟨⟨d', by rw [List.getElem?_set_ne n]; exact h1⟩, by rw [List.getElem?_set_ne n]; exact h2⟩
theorem tr_imp {f : Gv → Rs Fl} {e i : Nat} {cs : List Nat} {K : PySem.W.Frag} {Cl : Addr} (hx : T.xr = xrP) (ok : ClsK K Cl cs) {D : Ends} {σ : L2.St} {H : Hp} (h : tS T (fun g => trR cs e i (f g)) D σ H) :
    tS { xr := T.xr, wx := wKp K (.ref Cl) e (fun _ _ _ => tAsg (tVar e) (gName i)) T.wx D } f D σ H := by
  obtain ⟨W, g, Gk, h⟩ := h
  refine ⟨W, g, Gk, ?_⟩
  have h : PsS T W σ g H (fun fl g' W' σ' H' => FlR σ g H D W' σ' g' H' fl) (trR cs e i (f g)) := h
  cases r : f g with
  | bad => rw [r] at h; exact h
  | ok fl g' => rw [r] at h; exact h
  | ex c fs g' =>
    rw [r] at h
    intro cls d σ' H' W' s' G' x
    have x0 := x
    have x : T.xr W' H' c fs cls d := x
    rw [hx] at x
    obtain ⟨C', dd, v, ed, rfl, rfl, ca, nd, eh, rfl, rv⟩ := x
    refine ⟨cs.contains c, ok.exm c C' ca, fun b a na => ?_, fun b => ?_⟩
    · have h : PsS T W σ g H (fun fl g' W' σ' H' => FlR σ g H D W' σ' g' H' fl) (match cs.contains c with | true => caught c [ed] e i g' | false => .ex c [ed] g') := h
      rw [b] at h
      have h : PsS T W σ g H (fun fl g' W' σ' H' => FlR σ g H D W' σ' g' H' fl) (caught c [ed] e i g') := h
      unfold caught at h
      by_cases z : (e != i && freeS g'[e]?) = true
      · rw [if_pos z] at h
        obtain ⟨z1, z2⟩ := and2 z
        have nei : e ≠ i := by simpa using z1
        cases hp : put g' i (.sh (exD c [ed])) with
        | none => rw [hp] at h; exact h.elim
        | some g1 =>
          rw [hp] at h
          -- the caught exception is tracked now
          have sm := same_upd (o := xo a (.ref C') (some dd)) na
          have nWa : ¬ W' a := fun w => by
            obtain ⟨o, eo⟩ := G'.wok a w
            rw [na] at eo; cases eo
          have nda : dd ≠ a := fun z => by rw [z, na] at eh; cases eh
          have G2 := eok_new G' sm
          have s2 := s'.trans Gk.wok (stp_new sm)
          have rx : Rp W' (upd H' a (xo a (.ref C') (some dd))) (.ref a) (exD c [ed]) := .exc nWa nd upd_same ca (by rw [upd_ne nda]; exact eh) ((stp_new sm).rp G' rv)
          obtain ⟨G3, s3⟩ := put_stp2 Gk G2 s2 (v := .ref a) hp (.inl ⟨_, rfl, rx⟩)
          have f1 : freeS g1[e]? = true := by
            obtain ⟨rfl, t, et, nl, ni⟩ := put_ok hp
            rw [List.getElem?_set_ne (Ne.symm nei)]
            exact z2
          obtain ⟨G4, s4⟩ := unF_stp G3 s3 f1
          have q := h _ _ W' s4 G4
          have le : e < σ'.length := by
            rw [← G'.len]
            cases q9 : g'[e]? with
            | none => rw [q9] at z2; cases z2
            | some t => exact (List.getElem?_eq_some_iff.mp q9).1
          refine ⟨.ref a, List.getElem?_set_self le, ?_⟩
          show D.nx (((σ'.set e (some (.ref a))).set i (some (.ref a))).set e none) (upd H' a (xo a (.ref C') (some dd)))
          have es : ((σ'.set e (some (V.ref a))).set i (some (.ref a))).set e none = (σ'.set i (some (.ref a))).set e none := by
            rw [List.set_comm (some (V.ref a)) (some (V.ref a)) nei, List.set_set]
          rw [es]
          exact q
      · rw [if_neg z] at h; exact h.elim
    · have h : PsS T W σ g H (fun fl g' W' σ' H' => FlR σ g H D W' σ' g' H' fl) (match cs.contains c with | true => caught c [ed] e i g' | false => .ex c [ed] g') := h
      rw [b] at h
      exact h _ _ σ' H' W' s' G' x0
theorem stm_tr {p : Ss} {c : Nat} {cs : List Nat} {e i : Nat} (hp' : SSs G C k p) : SSt G C k (.tr p c cs e i) := by
  intro T B X st O hp h
  cases st <;> first | (cases h; done) | skip
  rename_i body hs oe fb pos
  obtain ⟨hh, h7⟩ := and2 h
  obtain ⟨x, px, n, y, py, z, pz, pa, ph, rfl, rfl, rfl, hc⟩ := mHd_inv hh
  obtain ⟨h, h6⟩ := and2 hc
  obtain ⟨h, h5⟩ := and2 h
  obtain ⟨h, h4⟩ := and2 h
  obtain ⟨h, h3⟩ := and2 h
  obtain ⟨h1, h2⟩ := and2 h
  obtain ⟨F, e1, e2, e3⟩ := clOf_at h1
  subst e2
  obtain ⟨Cl, m, ca, ok, _⟩ := O.cls c F cs e1 e3
  obtain ⟨gl, db, nm⟩ := O.gl h2
  obtain ⟨s1, s2, s3⟩ := O.st h5
  refine (ps_try_keep (c := .ref Cl) (i := e) (tb := fun W => tS { xr := T.xr, wx := W } (exs C (wrOf G) p)) (ts := fun _ _ _ => tAsg (tVar e) (gName i)) (Wout := T.wx) hp.st hp.fr hp.ex O.nd (O.st h3).1 (O.kindOf h4) ⟨gl, db, .inl m⟩ O.takes (fun W pn xe tk po => ?_) (fun a oe cls d pn hz hf => ?_)).imp fun D σ H q => tr_imp O.xrq ok (f := exs C (wrOf G) p) q
  · exact hp' (T := { xr := T.xr, wx := W }) (X := X.tr pn xe) { O with takes := tk } ⟨po, hp.st, hp.fr, hp.ex⟩ h7
  · have h6' := h6
    unfold rdB? at h6
    simp only [Bool.and_eq_true, decide_eq_true_eq] at h6
    obtain ⟨⟨k1, k2⟩, k3⟩ := h6
    obtain ⟨d1, d2, _⟩ := dun k3
    have pv : PE (X.suite a ((a, oe) :: pn)) (.Name z pz) (tVar e) := pe_var (by rw [show (X.suite a ((a, oe) :: pn)).N = B.N from O.N]; exact k1) (O.vis k2) d1 d2
    exact pss_one (ps_set (X := X.suite a ((a, oe) :: pn)) O.nd s1 s2 pv (sw_no rfl) s3)
theorem stm_nope : SSt G C k .nope := fun _ _ _ => ⟨fun _ _ _ _ _ _ ⟨_, _, _, h⟩ => h.elim⟩
theorem stms_nil : SSs G C k .nil := by
  intro T B X st O hp h
  cases st with
  | nil => exact pss_nil.imp fun _ _ _ q => skip_imp q
  | cons _ _ => cases h
theorem stms_tell {i : Nat} {c : Cr} {tss : List (List Tst)} {r : Ss} (hr : SSs G C k r) : SSs G C k (.tell i c tss r) := by
  intro T B X st O hp h
  cases st with
  | nil => cases c <;> cases h
  | cons a as =>
    cases a <;> first | (cases c <;> cases h; done) | skip
    rename_i ts e p
    rcases ts with _ | ⟨t, _ | ⟨t2, ts⟩⟩ <;> first | (cases c <;> cases h; done) | (cases t <;> cases c <;> cases h; done) | skip
    cases t <;> first | (cases c <;> cases h; done) | skip
    rename_i t p'
    obtain ⟨h1, h2⟩ := and2 h
    obtain ⟨h1, hc⟩ := and2 h1
    obtain ⟨s1, s2, s3⟩ := O.st h1
    cases e2 : mTells G i tss B as with
    | none => rw [e2] at h2; cases h2
    | some l =>
      rw [e2] at h2
      have tl := tells_pss (T := T) O e2 (hr O hp h2)
      cases c with
      | disp es =>
        cases e <;> first | (cases hc; done) | skip
        rename_i elts pos2
        obtain ⟨n1, n2⟩ := and2 hc
        have ps := ps_set (e := .List elts pos2) (pos := p) (pos' := p') O.nd s1 s2 (pe_lst (pa_of O (sEs es) n2 n1)) (sw_no (e := .List elts pos2) rfl) s3
        refine (pss_cons ps tl).imp fun D σ H q => ?_
        obtain ⟨W, g, Gk, q⟩ := q
        refine disp_imp (f := evs C (wrOf G) es) (k := fun d g => (ttR C (wrOf G) i tss (some d) g).bind fun _ g => exs C (wrOf G) r g) Gk q fun d W' σ' g' H' tl' hi' h' => ?_
        exact tells_imp O e2 tl' hi' h'
      | one x =>
        obtain ⟨n1, n2⟩ := and2 hc
        have ps := ps_set (pos := p) (pos' := p') O.nd s1 s2 (sE x O n2).1 (sw_no (nt n1)) s3
        refine (pss_cons ps tl).imp fun D σ H q => ?_
        obtain ⟨W, g, Gk, q⟩ := q
        refine mkOne_imp (f := ev C (wrOf G) x) (k := fun d g => (ttR C (wrOf G) i tss (some d) g).bind fun _ g => exs C (wrOf G) r g) Gk q fun d W' σ' g' H' tl' hi' h' => ?_
        exact tells_imp O e2 tl' hi' h'
theorem stms_cons {s : S} {r : Ss} (hs : SSt G C k s) (hr : SSs G C k r) : SSs G C k (.cons s r) := by
  intro T B X st O hp h
  cases st with
  | nil => cases h
  | cons a as => exact (pss_cons (hs O hp (and2 h).1) (hr O hp (and2 h).2)).imp fun _ _ _ q => seq_stm (fa := ex C (wrOf G) s) (fb := exs C (wrOf G) r) q
end
section
variable {G : List Fn} {C : Calls} {k : Nat}
mutual
theorem sS : ∀ s : S, SSt G C k s
  | .set _ _ => stm_set
  | .unp _ _ => stm_unp
  | .par _ _ => stm_par
  | .sto _ _ _ => stm_sto
  | .stoD _ _ _ => stm_stoD
  | .sto2 _ _ _ _ _ => stm_sto2
  | .parO _ _ => stm_parO
  | .ex _ => stm_ex
  | .ret _ => stm_ret
  | .retn => stm_retn
  | .ife _ p q => stm_ife (sSs p) (sSs q)
  | .wh _ p => stm_wh (sSs p)
  | .for_ _ _ p => stm_for (sSs p)
  | .brk => stm_brk
  | .cont => stm_cont
  | .pass => stm_pass
  | .rse _ _ => stm_rse
  | .tr p _ _ _ _ => stm_tr (sSs p)
  | .nope => stm_nope
theorem sSs : ∀ s : Ss, SSs G C k s
  | .nil => stms_nil
  | .cons s r => stms_cons (sS s) (sSs r)
  | .tell _ _ _ r => stms_tell (sSs r)
end
end
end TL
/-! TL27: every def whose text passes the check keeps its promise. -/
namespace TL
open PySem PySem.Spec PyProof.Rows L2
variable [Plc]

section
variable {W W' : Addr → Prop} {H H' : Hp} {vs : List V} {as g' : Gv} {n : Nat} {σ' : L2.St} {w : Bool} {io : Option D}
theorem frame_at {i : Nat} {s : Slot} (h : (as ++ List.replicate n Slot.un)[i]? = some s) (hs : s ≠ .un) : as[i]? = some s := by
  by_cases l : i < as.length
  · rw [List.getElem?_append_left l] at h; exact h
  · rw [List.getElem?_append_right (Nat.le_of_not_lt l)] at h
    exact absurd (List.eq_of_mem_replicate (List.mem_of_getElem? h)) hs
theorem frame_of {i : Nat} {s : Slot} (h : as[i]? = some s) : (as ++ List.replicate n Slot.un)[i]? = some s := by
  rw [List.getElem?_append_left (List.getElem?_eq_some_iff.mp h).1]; exact h
theorem mut_un {s : Slot} (h : s.mut = true) : s ≠ .un := fun z => by subst z; cases h
theorem start_at {N : List Str} {i : Nat} {v : V} (h : (vs.map some)[i]? = some (some v)) : (start N vs)[i]? = some (some v) := by
  unfold L2.start
  rw [List.getElem?_append_left (List.getElem?_eq_some_iff.mp h).1]; exact h
theorem start_lt {N : List Str} {i : Nat} (h : i < vs.length) : (start N vs)[i]? = (vs.map some)[i]? := by
  unfold L2.start
  rw [List.getElem?_append_left (by simpa using h)]
theorem lt_of {i : Nat} {s : Slot} (G : EOk W H (vs.map some) as) (h : as[i]? = some s) : i < vs.length := by
  have := (List.getElem?_eq_some_iff.mp h).1
  rw [G.len, List.length_map] at this
  exact this
theorem frame_mut {N : List Str} {b : Addr} (G : EOk W H (vs.map some) as) : MutA (start N vs) (as ++ List.replicate n Slot.un) b ↔ MutA (vs.map some) as b := by
  constructor
  · rintro ⟨i, s, e, m, q⟩
    have e' := frame_at e (mut_un m)
    exact ⟨i, s, e', m, by unfold ad at q ⊢; rw [← start_lt (N := N) (lt_of G e')]; exact q⟩
  · rintro ⟨i, s, e, m, q⟩
    exact ⟨i, s, frame_of e, m, start_at q⟩
/-- the frame of a def at its start -/
theorem frame_ok {N : List Str} (G : EOk W H (vs.map some) as) (hl : N.length - vs.length = n) : EOk W H (start N vs) (as ++ List.replicate n Slot.un) where
  len := by
    have := G.len
    rw [List.length_map] at this
    unfold L2.start
    simp only [List.length_append, List.length_replicate, List.length_map, this, hl]
  wok := G.wok
  sh := fun i d e => by
    obtain ⟨v, ev, r⟩ := G.sh i d (frame_at e (fun z => nomatch z))
    exact ⟨v, start_at ev, r⟩
  hd := fun i s d e hd => by
    obtain ⟨a, ha, q⟩ := G.hd i s d (frame_at e (fun z => by subst z; cases hd)) hd
    exact ⟨a, start_at ha, q⟩
  inj := fun i j s t a n e1 e2 m hd h1 h2 => by
    have e1' := frame_at e1 (mut_un m)
    have e2' := frame_at e2 (fun z => by subst z; obtain ⟨d, hd⟩ := hd; cases hd)
    refine G.inj i j s t a n e1' e2' m hd ?_ ?_
    · unfold ad at h1 ⊢; rw [← start_lt (N := N) (lt_of G e1')]; exact h1
    · unfold ad at h2 ⊢; rw [← start_lt (N := N) (lt_of G e2')]; exact h2
theorem rd_of {i : Nat} {s : Slot} {r : Gv} (h : r.all Slot.rd = true) (e : r[i]? = some s) : s.rd = true := List.all_eq_true.mp h s (List.mem_of_getElem? e)
/-- the places behind the call -/
theorem io_cases (hs : shapeOk w as = true) (hio : ioOf w g' = some io) : (w = false ∧ io = none ∧ as.all Slot.rd = true) ∨ ∃ d0 d r r', w = true ∧ as = .io d0 :: r ∧ r.all Slot.rd = true ∧ g' = .io d :: r' ∧ io = some d := by
  cases w with
  | false =>
    have h : some none = some io := hio
    cases h
    exact .inl ⟨rfl, rfl, hs⟩
  | true =>
    cases as with
    | nil => cases hs
    | cons s r =>
      cases s <;> first | (cases hs; done) | skip
      rename_i d0
      cases g' with
      | nil => cases hio
      | cons s' r' =>
        cases s' <;> first | (cases hio; done) | skip
        rename_i d
        cases hio
        exact .inr ⟨d0, d, r, r', rfl, rfl, hs, rfl, rfl⟩
theorem slot_back (hs : shapeOk w as = true) (hio : ioOf w g' = some io) {i : Nat} {s : Slot} (e : (ioSet as io)[i]? = some s) :
    (s.rd = true ∧ as[i]? = some s) ∨ (∃ d0 d, i = 0 ∧ s = .io d ∧ as[0]? = some (.io d0) ∧ g'[0]? = some (.io d)) := by
  rcases io_cases hs hio with ⟨rfl, rfl, h⟩ | ⟨d0, d, r, r', rfl, rfl, h, rfl, rfl⟩
  · exact .inl ⟨rd_of h e, e⟩
  · cases i with
    | zero =>
      have e : some (Slot.io d) = some s := e
      cases e
      exact .inr ⟨d0, d, rfl, rfl, rfl, rfl⟩
    | succ i =>
      have e : r[i]? = some s := e
      exact .inl ⟨rd_of h e, e⟩
theorem slot_fwd (hs : shapeOk w as = true) (hio : ioOf w g' = some io) {i : Nat} {s : Slot} (e : as[i]? = some s) : (s.rd = true ∧ (ioSet as io)[i]? = some s) ∨ (∃ d0 d, i = 0 ∧ s = .io d0 ∧ (ioSet as io)[0]? = some (.io d)) := by
  rcases io_cases hs hio with ⟨rfl, rfl, h⟩ | ⟨d0, d, r, r', rfl, rfl, h, rfl, rfl⟩
  · exact .inl ⟨rd_of h e, e⟩
  · cases i with
    | zero =>
      have e : some (Slot.io d0) = some s := e
      cases e
      exact .inr ⟨d0, d, rfl, rfl, rfl⟩
    | succ i =>
      have e : r[i]? = some s := e
      exact .inl ⟨rd_of h e, e⟩
theorem ioSet_len (as : Gv) (io : Option D) : (ioSet as io).length = as.length := by
  cases io with
  | none => rfl
  | some d => exact List.length_set
/-- a held place behind the call is one at the body's end -/
theorem held_at {N : List Str} (G : EOk W H (vs.map some) as) (s : Stp W (start N vs) (as ++ List.replicate n Slot.un) H W' σ' g' H') (hs : shapeOk w as = true) (hio : ioOf w g' = some io) {i : Nat} {t : Slot} {d : D} (e : (ioSet as io)[i]? = some t) (hd : t.hold = some d) :
    g'[i]? = some t ∧ i < vs.length ∧ σ'[i]? = (vs.map some)[i]? := by
  rcases slot_back hs hio e with ⟨rd, e⟩ | ⟨d0, d1, rfl, rfl, e0, e1⟩
  · have l := lt_of G e
    cases t with
    | lk d' =>
      obtain ⟨h1, h2⟩ := s.lf i d' (frame_of e)
      exact ⟨h1, l, h2.trans (start_lt l)⟩
    | sh _ => cases hd
    | un => cases rd
    | ow _ => cases rd
    | io _ => cases rd
  · have l := lt_of G e0
    obtain ⟨_, h2⟩ := s.fx 0 d0 (frame_of e0)
    exact ⟨e1, l, h2.trans (start_lt l)⟩
theorem exit_ok {N : List Str} (G : EOk W H (vs.map some) as) (hl : N.length - vs.length = n) (s : Stp W (start N vs) (as ++ List.replicate n Slot.un) H W' σ' g' H') (G' : EOk W' H' σ' g') (hs : shapeOk w as = true) (hio : ioOf w g' = some io) :
    EOk W' H' (vs.map some) (ioSet as io) ∧ Stp W (vs.map some) as H W' (vs.map some) (ioSet as io) H' := by
  have G0 := frame_ok (N := N) G hl
  refine ⟨⟨by rw [ioSet_len]; exact G.len, G'.wok, fun i d e => ?_, fun i t d e hd => ?_, fun i j t u a nij e1 e2 m hd h1 h2 => ?_⟩, ⟨fun b x e nm => s.keep b x e fun z => nm ((frame_mut G).mp z), s.there, fun b wb nm => s.w b wb fun z => nm ((frame_mut G).mp z), s.wb, fun b m => ?_, fun i d e => ?_, fun i d e => ?_, fun i d e => ?_⟩⟩
  · rcases slot_back hs hio e with ⟨_, e⟩ | ⟨_, _, _, z, _⟩
    · obtain ⟨v, ev, r⟩ := G.sh i d e
      exact ⟨v, ev, s.rp G0 r⟩
    · cases z
  · obtain ⟨h1, l, h2⟩ := held_at G s hs hio e hd
    obtain ⟨a, ha, q⟩ := G'.hd i t d h1 hd
    exact ⟨a, h2.symm.trans ha, q⟩
  · obtain ⟨du, hdu⟩ := Slot.hold_of_mut m
    obtain ⟨dw, hdw⟩ := hd
    obtain ⟨p1, _, p2⟩ := held_at G s hs hio e1 hdu
    obtain ⟨q1, _, q2⟩ := held_at G s hs hio e2 hdw
    exact G'.inj i j t u a nij p1 q1 m ⟨dw, hdw⟩ (p2.trans h1) (q2.trans h2)
  · obtain ⟨i, t, e, m, q⟩ := m
    rcases slot_back hs hio e with ⟨rd, e⟩ | ⟨d0, d1, rfl, rfl, e0, e1⟩
    · cases t <;> first | (cases rd; done) | (cases m; done)
    · exact .inl ⟨0, _, e0, rfl, q⟩
  · rcases slot_fwd hs hio e with ⟨_, e⟩ | ⟨_, _, _, z, _⟩
    · exact ⟨e, rfl⟩
    · cases z
  · rcases slot_back hs hio e with ⟨_, e⟩ | ⟨_, _, _, z, _⟩
    · exact e
    · cases z
  · rcases slot_fwd hs hio e with ⟨rd, e⟩ | ⟨d0, d1, rfl, z, e0⟩
    · cases rd
    · exact ⟨⟨d1, e0⟩, rfl⟩
theorem exit_ret {N : List Str} (G : EOk W H (vs.map some) as) (s : Stp W (start N vs) (as ++ List.replicate n Slot.un) H W' σ' g' H') (hs : shapeOk w as = true) (hio : ioOf w g' = some io) {v : V} {d : D} {own : Bool}
    (r : RetR (start N vs) (as ++ List.replicate n Slot.un) H W' σ' g' H' v d own) : ORp (vs.map some) as H W' (ioSet as io) H' v (.val d own) := by
  cases own with
  | false => exact r
  | true =>
    obtain ⟨a, e, wa, o, nh, f⟩ := r
    refine ⟨a, e, wa, o, ?_, f.imp id (frame_mut G).mp⟩
    rintro ⟨i, t, d', et, hd, hi⟩
    obtain ⟨h1, _, h2⟩ := held_at G s hs hio et hd
    exact nh ⟨i, t, d', h1, hd, h2.trans hi⟩
end
end TL
/-! TLM: _law_marked keeps its promise. -/
namespace TL
open PySem PySem.Spec PyProof.Rows L2
variable [Plc]
def c11 : E := (.and (.cons (.cmp .NotEq (.b 0) (.lst .nil)) (.cons (.cmp .Eq (.idx (.b 0) (.neg (.k (.int 1)))) (.k (.str "marked"))) .nil)))
def mkList (ki ii m : Nat) : Ss := (.cons (.ife c11 (.cons (.ret (.k (.bool false))) .nil) .nil) (.cons (.set ki (.lc [ii] (.nm ii) (.seq (.b 0)) .nil (.call m (.cons (.b ii) .nil)))) (.cons (.ex (.app 0 (.k (.str "marked")))) (.cons (.ret (.cmp .NotIn (.k (.bool false)) (.b ki))) .nil))))
def fMarkA (m : Nat) : Fn := { name := "_law_marked", N := ["told", "kept", "item"], np := 1, w := false, kw := [], kp := [], mark := true, body := (.cons (.ife (.isi (.b 0) .list) (mkList 1 2 m) .nil) (.cons (.ife (.isi (.b 0) .tuple) (.cons (.ret (.cmp .NotIn (.k (.bool false)) (.lc [2] (.nm 2) (.seq (.b 0)) .nil (.call m (.cons (.b 2) .nil))))) .nil) .nil) (.cons (.ret (.or (.cons (.is (.b 0) .non false) (.cons (.isT (.b 0) [.int, .str]) .nil)))) .nil))) }
def fMarkB (m : Nat) : Fn := { name := "_law_marked", N := ["told", "is_new", "kept", "item"], np := 1, w := false, kw := [], kp := [], mark := true, body := (.cons (.ife (.isi (.b 0) .dict) (.cons .nope (.cons .nope (.cons .nope .nil))) .nil) (.cons (.ife (.isi (.b 0) .list) (mkList 2 3 m) .nil) (.cons (.ret (.or (.cons (.not (.isi (.b 0) .tuple)) (.cons (.cmp .NotIn (.k (.bool false)) (.lc [3] (.nm 3) (.seq (.b 0)) .nil (.call m (.cons (.b 3) .nil)))) .nil)))) .nil))) }
/-- a frame in which one place alone is seen -/
def seeG (n i : Nat) (d : D) : Gv := (List.replicate n Slot.un).set i (.sh d)
theorem see_get {n i j : Nat} {d : D} {s : Slot} (h : (seeG n i d)[j]? = some s) : s = .un ∨ (i = j ∧ s = .sh d) := by
  rcases get_set h with ⟨e, es⟩ | ⟨n1, h⟩
  · exact .inr ⟨e, es⟩
  · exact .inl (List.eq_of_mem_replicate (List.mem_of_getElem? h))
theorem see_ok {n i : Nat} {d : D} {v : V} {σ : L2.St} {H : Hp} (hl : σ.length = n) (e : σ[i]? = some (some v)) (r : Rp W0 H v d) : EOk W0 H σ (seeG n i d) where
  len := by unfold seeG; simp [hl]
  wok := fun b w => w.elim
  sh := fun j d' h => by
    rcases see_get h with z | ⟨rfl, z⟩
    · cases z
    · cases z; exact ⟨v, e, r⟩
  hd := fun j s d' h hd => by
    rcases see_get h with rfl | ⟨_, rfl⟩
    · cases hd
    · cases hd
  inj := fun j k s t a _ h _ m _ _ => by
    rcases see_get h with rfl | ⟨_, rfl⟩
    · cases m
    · cases m
theorem see_mut {n i : Nat} {d : D} {σ : L2.St} (c : Addr) : ¬ MutA σ (seeG n i d) c := fun ⟨j, s, h, m, _⟩ => by
  rcases see_get h with rfl | ⟨_, rfl⟩
  · cases m
  · cases m
section
variable {T : Th} {σ : L2.St} {H : Hp}
theorem see_t {f : Gv → Rs Op} {n i : Nat} {d : D} {v : V} {Q : Bool → Hp → Prop} {b : Bool} {a : Op} (hl : σ.length = n) (e : σ[i]? = some (some v)) (r : Rp W0 H v d) (ef : f (seeG n i d) = .ok a (seeG n i d)) (et : tst a (seeG n i d) = some b) (q : ∀ H', Same H H' → Q b H') : tT T f σ H Q :=
  ⟨W0, seeG n i d, see_ok hl e r, by rw [ef]; exact fun H' W' s' G' => ⟨b, et, q H' fun c x h => s'.keep c x h (see_mut c)⟩⟩
theorem see_v {f : Gv → Rs Op} {n i : Nat} {d r : D} {v : V} {Q : VK} (hl : σ.length = n) (e : σ[i]? = some (some v)) (rp : Rp W0 H v d) (ef : f (seeG n i d) = .ok (.val r false) (seeG n i d)) (q : ∀ u H', Same H H' → (∃ W', Rp W' H' u r) → Q u H') : tI T f σ H Q :=
  ⟨W0, seeG n i d, see_ok hl e rp, by rw [ef]; exact fun H' W' s' G' u ru => q u H' (fun c x h => s'.keep c x h (see_mut c)) ⟨W', ru⟩⟩
end
theorem Off.trans {L : List Addr} {H H1 H2 : Hp} (a : Off L H H1) (b : Off L H1 H2) : Off L H H2 := fun c x e n => b c x (a c x e n) n
theorem Off.sub {L M : List Addr} {H H' : Hp} (a : Off L H H') (s : ∀ b, b ∈ L → b ∈ M) : Off M H H' := fun c x e n => a c x e fun z => n (s c z)
theorem any_tt : ∀ n : Nat, anyIn (.bool false) (List.replicate n (.bool true)) = false
  | 0 => rfl
  | n + 1 => by
    rw [List.replicate_succ]
    show (PyData.eqv (.bool true) (.bool false) || anyIn (.bool false) (List.replicate n (.bool true))) = _
    rw [any_tt n]
    rfl
theorem lay_tt : ∀ n : Nat, PyData.canLayAll0 (List.replicate n (.bool true)) = true
  | 0 => rfl
  | n + 1 => by
    rw [List.replicate_succ]
    show ((PyData.bool true).canLay0 && PyData.canLayAll0 (List.replicate n (.bool true))) = true
    rw [lay_tt n]
    rfl
theorem notin_l (x : D) (ys : List D) : cmpD .NotIn x (.list ys) = if (eqOk x && PyData.canLayAll0 ys) = true then some (!anyIn x ys) else none := by
  cases x <;> rfl
theorem notin_tt (n : Nat) : cmpD .NotIn (.bool false) (.list (List.replicate n (.bool true))) = some true := by
  rw [notin_l, lay_tt, any_tt]
  rfl
theorem rpA_trues {W : Addr → Prop} {H : Hp} : ∀ n : Nat, RpA W H (List.replicate n (.bl true)) (List.replicate n (.bool true))
  | 0 => .nil
  | n + 1 => by rw [List.replicate_succ, List.replicate_succ]; exact .cons (.bl true) (rpA_trues n)
theorem markA_mem : ∀ {ds : List D} {i : Nat} {d : D}, markA ds = true → ds[i]? = some d → markD d = true
  | d :: ds, 0, x, h, e => by
    rw [markA, Bool.and_eq_true] at h
    cases e
    exact h.1
  | d :: ds, i + 1, x, h, e => by
    rw [markA, Bool.and_eq_true] at h
    exact markA_mem h.2 e
theorem dep_mem : ∀ {ds : List D} {i : Nat} {d : D}, ds[i]? = some d → d.depth ≤ PyData.depthAll ds
  | d :: ds, 0, x, e => by
    cases e
    simp [PyData.depthAll]
    omega
  | d :: ds, i + 1, x, e => by
    have := dep_mem (ds := ds) (i := i) (d := x) e
    simp [PyData.depthAll]
    omega
section
variable {T : Th} {G : List Fn} {C : Calls} {k m : Nat} {B : BC} {X : Cx} {F : Fn}
/-- the comprehension's turns -/
theorem turns_ok {T' : Th} {a : Addr} {xs : List V} {ds : List D} {L : List Addr} {ii : Nat} {σ : L2.St} {H : Hp} {Q : VK} (e0 : σ[0]? = some (some (.ref a))) (hii : ii < σ.length) (ha : H a = some (.lst xs)) (lx : xs.length ≤ sizeLine) (q : DqA H xs ds L) (na : a ∉ L) (dp : PyData.depthAll ds < k) (mk : markA ds = true)
    (hq : ∀ D H', H' D = some (.lst (List.replicate xs.length (.bl true))) → H D = none → H' a = some (.lst xs) → Off L H H' → NoLess H H' → Q (.ref D) H') :
    tLc (iList X.K (tVar 0)) (gName ii) tYes (tCallG T' (spM k) (tCons (tVar ii) tNil)) [ii] σ H Q := by
  refine ⟨.ref a, e0, a, rfl, ⟨xs, .inl (.inl ha)⟩, ?_⟩
  intro D nD
  let Wm : Nat → Nat → Hp → Prop := fun i m Hc => m = xs.length - i ∧ i ≤ xs.length ∧ Hc a = some (.lst xs) ∧ Hc D = some (.lst (List.replicate i (.bl true))) ∧ (∃ M, DqA Hc (xs.drop i) (ds.drop i) M ∧ (∀ b, b ∈ M → b ∈ L)) ∧ Off L H Hc ∧ NoLess H Hc
  have aD : a ≠ D := fun z => by rw [z, nD] at ha; cases ha
  have LD : ∀ b, b ∈ L → b ≠ D := fun b hb z => by
    obtain ⟨ys, e⟩ := DqA.all ds xs L q b hb
    rw [z, nD] at e; cases e
  have sm : Same H (upd H D (.lst [])) := same_upd nD
  refine ⟨Wm, ⟨xs.length, by simp, Nat.zero_le _, by rw [upd_ne aD]; exact ha, upd_same, ⟨L, ?_, fun b h => h⟩, same_off sm, same_nol sm⟩, ?_⟩
  · rw [List.drop_zero, List.drop_zero]
    exact DqA.keep ds xs L (fun b x e _ => sm b x e) q
  rintro i m' Hc ⟨rfl, hi, hca, hcD, ⟨M, qM, sM⟩, off, nol⟩
  by_cases e : i = xs.length
  · subst e
    exact .inl ⟨⟨xs, .inl (.inl hca), Nat.le_refl _⟩, hq D Hc hcD nD hca off nol⟩
  · have hlt : i < xs.length := by omega
    have hld : i < ds.length := by rw [← q.len]; exact hlt
    have ex : xs[i]? = some xs[i] := List.getElem?_eq_getElem hlt
    have ed : ds[i]? = some ds[i] := List.getElem?_eq_getElem hld
    refine .inr ⟨⟨xs, xs[i], .inl (.inl hca), ex⟩, Wm (i + 1) (xs.length - (i + 1)), fun H' w => ⟨_, by omega, w⟩, fun x H2 y => ?_⟩
    obtain ⟨rfl, y⟩ := y
    have ex2 := y xs (.inl (.inl hca))
    rw [ex] at ex2
    cases ex2
    refine And.intro ?_ ?_
    · show wipe ((wipe σ [ii]).set ii (some xs[i])) [ii] = wipe σ [ii]
      have o2 : OffOf [ii] (wipe σ [ii]) ((wipe σ [ii]).set ii (some xs[i])) := ⟨by simp, fun j nj => by
        rw [List.getElem?_set_ne (fun z => nj (by simp [z]))]⟩
      rw [wipe_eq o2, wipe_wipe]
    unfold tYes
    simp only [↓reduceIte]
    have vi : ((wipe σ [ii]).set ii (some xs[i]))[ii]? = some (some xs[i]) := by
      rw [List.getElem?_set_self (by rw [wipe_length]; exact hii)]
    refine ⟨xs[i], vi, ?_⟩
    unfold tNil
    rw [List.drop_eq_getElem_cons hlt, List.drop_eq_getElem_cons hld] at qM
    cases qM with
    | @cons _ _ _ _ L1 M1 q1 q2 dj =>
      refine ⟨xs[i], ds[i], L1, rfl, q1, Nat.lt_of_le_of_lt (dep_mem ed) dp, markA_mem mk ed, fun H4 o4 n4 => ?_⟩
      have sub1 : ∀ b, b ∈ L1 → b ∈ L := fun b h => sM b (List.mem_append_left _ h)
      have h4D : H4 D = some (.lst (List.replicate i (.bl true))) := o4 D _ hcD fun z => LD D (sub1 D z) rfl
      have h4a : H4 a = some (.lst xs) := o4 a _ hca fun z => na (sub1 a z)
      refine ⟨_, h4D, by rw [List.length_replicate]; omega, rfl, hlt, by rw [upd_ne aD]; exact h4a, ?_, ⟨M1, ?_, fun b h => sM b (List.mem_append_right _ h)⟩, fun b x e n => ?_, fun b e => ?_⟩
      · rw [upd_same, List.replicate_succ']
      · refine DqA.keep _ _ _ (fun b x e h => ?_) q2
        have e4 := off_keep o4 (Dq.all _ _ _ q1) (fun b h z => dj b z h) b x e h
        rw [upd_ne]
        · exact e4
        · intro z
          rcases h with h | h
          · exact LD b (sM b (List.mem_append_right _ h)) z
          · rw [z, hcD] at e
            cases e
            exact h.no
      · have bD : b ≠ D := fun z => by rw [z, nD] at e; cases e
        rw [upd_ne bD]
        exact o4 b x (off b x e n) fun z => n (sub1 b z)
      · by_cases z : b = D
        · rw [z]; exact nD
        · rw [upd_ne z] at e
          exact nol b (n4 b e)
theorem mSs_cons {s : S} {r : Ss} {l : List Stmt} (h : mSs G (.cons s r) B l = true) : ∃ a as, l = a :: as ∧ mS G s B a = true ∧ mSs G r B as = true := by
  cases l with
  | nil => cases h
  | cons a as => exact ⟨a, as, rfl, (and2 h).1, (and2 h).2⟩
theorem mSs_nil {l : List Stmt} (h : mSs G .nil B l = true) : l = [] := by
  cases l with
  | nil => rfl
  | cons _ _ => cases h
theorem mS_ife {c : E} {p q : Ss} {st : Stmt} (h : mS G (.ife c p q) B st = true) : ∃ c' a b pos, st = .If c' a b pos ∧ tOk c c' = true ∧ mE G c B c' = true ∧ mSs G p B a = true ∧ mSs G q B b = true := by
  cases st <;> first | (cases h; done) | skip
  obtain ⟨h, h4⟩ := and2 h
  obtain ⟨h, h3⟩ := and2 h
  obtain ⟨h1, h2⟩ := and2 h
  exact ⟨_, _, _, _, rfl, h1, h2, h3, h4⟩
theorem mS_ret {x : E} {st : Stmt} (h : mS G (.ret x) B st = true) : ∃ e pos, st = .Return (some e) pos ∧ mE G x B e = true := by
  cases st <;> first | (cases h; done) | skip
  rename_i e p
  cases e <;> first | (cases h; done) | skip
  exact ⟨_, _, rfl, h⟩
theorem mS_ex {x : E} {st : Stmt} (h : mS G (.ex x) B st = true) : ∃ e pos, st = .Expr e pos ∧ comp? e = false ∧ mE G x B e = true := by
  cases st <;> first | (cases h; done) | skip
  obtain ⟨h1, h2⟩ := and2 h
  exact ⟨_, _, rfl, nt h1, h2⟩
theorem pe_append (O : XOk T G C k B X) {i : Nat} {x : E} {e : Expr} (h : mE G (.app i x) B e = true) : PE X e (tBM X.K "list" rAppend (tVar i) (tCons (tI T (ev C (wrOf G) x)) tNil)) := by
  cases e <;> first | (cases h; done) | skip
  rename_i fn as kws p
  cases fn <;> first | (cases h; done) | skip
  rename_i o m q
  cases o <;> first | (cases h; done) | skip
  rename_i y q2
  rcases as with _ | ⟨a, _ | ⟨b, as⟩⟩ <;> first | (cases h; done) | skip
  cases kws <;> first | (cases h; done) | skip
  obtain ⟨h, h5⟩ := and2 h
  obtain ⟨h, h4⟩ := and2 h
  obtain ⟨h, h3⟩ := and2 h
  obtain ⟨h1, h2⟩ := and2 h
  have e := dec h2
  subst e
  exact pe_bm F.plainAttrs_list F.slot_list_append F.type_list_append mt_append (O.var h1) (pa_cons' (sE x O h5).1 (nt h4) pa_nil) rfl (by rw [star_cons (nt h4)]; rfl) h3 (star_cons (nt h4) _ X.env) rfl
def tKept (T : Th) (K : PySem.W.Frag) (k ii : Nat) : TE := tLc (iList K (tVar 0)) (gName ii) tYes (tCallG (T0 T) (spM k) (tCons (tVar ii) tNil)) [ii]
theorem kept_ps (O : XOk T G C k B X) (hF : G[m]? = some F) (hk : F.mark = true) {ki ii : Nat} {st : Stmt} (h : mS G (.set ki (.lc [ii] (.nm ii) (.seq (.b 0)) .nil (.call m (.cons (.b ii) .nil)))) B st = true) : PS X st (tAsg (tKept T X.K k ii) (gName ki)) := by
  cases st <;> first | (cases h; done) | skip
  rename_i ts e p
  rcases ts with _ | ⟨t, _ | ⟨t2, ts⟩⟩ <;> first | (cases h; done) | (cases t <;> cases h; done) | skip
  cases t <;> first | (cases h; done) | skip
  rename_i t p'
  obtain ⟨h1, h2⟩ := and2 h
  obtain ⟨h1, hnk⟩ := and2 h1
  obtain ⟨s1, s2, s3⟩ := O.st h1
  cases e <;> first | (cases h2; done) | skip
  rename_i elt gens scope q
  rcases gens with _ | ⟨⟨g1, g2, ifs, z⟩, _ | ⟨g3, gens⟩⟩ <;> first | (cases h2; done) | skip
  obtain ⟨h, h8⟩ := and2 h2
  obtain ⟨h, h7⟩ := and2 h
  obtain ⟨h, h6⟩ := and2 h
  obtain ⟨h, h5⟩ := and2 h
  obtain ⟨h, h4⟩ := and2 h
  obtain ⟨h, h3⟩ := and2 h
  obtain ⟨hb1, hb2⟩ := and2 h
  have e := dec hb1
  subst e
  have ok := blk_of O hb2
  obtain ⟨h6a, h6b⟩ := and2 h6
  cases g2 <;> first | (cases h6b; done) | skip
  cases ifs <;> first | (cases h7; done) | skip
  have own : (ownL B [ii]).map (·.2) = [ii] := ownL_snd [ii]
  have pi := pi_list (tg := g1) (O.var (pos := by assumption) h6b)
  cases sw : (X.env.blockKind == .function && X.env.kindOf t == some .local && p'.line == q.line && !(scope.names.any fun (n, k) => n == t && (k == .local || k == .cell))) with
  | false =>
    have b := pe_lc (pos := q) (g := gName ii) (tt := tYes) (te := tCallG (T0 T) (spM k) (tCons (tVar ii) tNil)) O.calm O.nd pi ok (fun s H A cl fp => pg_tg (tg := .nm ii) (blk_ok O ok.kind s H cl A fp) h5) (fun s H A cl fp => pts_nil) (fun s H A cl fp => pe_mark (blk_ok O ok.kind s H cl A fp) hF hk h8) (fold_no (nt h3))
    rw [own] at b
    exact ps_set O.nd s1 s2 b (by rw [sw_lc, sw]) s3
  | true =>
    have hl : X.env.scope.names.lookup t = some .local := eq_of_beq (and2 (and2 (and2 sw).1).1).2
    have b := ps_setLc (spos := p) (g := gName ii) (tt := tYes) (te := tCallG (T0 T) (spM k) (tCons (tVar ii) tNil)) O.calm O.nd s1 hl (by rw [sw_lc, sw]) pi ok (fun s H A cl fp => pg_tg (tg := .nm ii) (blk_ok O ok.kind s H cl A fp) h5) (fun s H A cl fp => pts_nil) (fun s H A cl fp => pe_mark (blk_ok O ok.kind s H cl A fp) hF hk h8) (fold_no (nt h3))
    rw [own] at b
    exact b
def tList (T : Th) (G : List Fn) (C : Calls) (K : PySem.W.Frag) (k ki ii : Nat) : TS :=
  tSeq (tIfS (tT T (ev C (wrOf G) c11)) tNever tNext) (tSeq (tAsg (tKept T K k ii) (gName ki)) (tSeq (tDrop (tBM K "list" rAppend (tVar 0) (tCons (tI T (ev C (wrOf G) (.k (.str "marked")))) tNil))) (tSeq (tRet (tI T (ev C (wrOf G) (.cmp .NotIn (.k (.bool false)) (.b ki))))) tNext)))
theorem list_ps (O : XOk T G C k B X) (hF : G[m]? = some F) (hk : F.mark = true) {ki ii : Nat} {sts : List Stmt} (h : mSs G (mkList ki ii m) B sts = true) : PSs X sts (tList T G C X.K k ki ii) := by
  obtain ⟨a0, r, rfl, h0, h⟩ := mSs_cons h
  obtain ⟨a1, r, rfl, h1, h⟩ := mSs_cons h
  obtain ⟨a2, r, rfl, h2, h⟩ := mSs_cons h
  obtain ⟨a3, r, rfl, h3, h⟩ := mSs_cons h
  have := mSs_nil h
  subst this
  obtain ⟨c', x, y, pos, rfl, t1, t2, t3, t4⟩ := mS_ife h0
  have := mSs_nil t4
  subst this
  obtain ⟨e2, p2, rfl, n2, m2⟩ := mS_ex h2
  obtain ⟨e3, p3, rfl, m3⟩ := mS_ret h3
  exact pss_cons (ps_if ((sE c11 O t2).2 t1) pss_never pss_nil) (pss_cons (kept_ps O hF hk h1) (pss_cons (ps_expr (pe_append O m2) (sw_no n2)) (pss_cons (ps_ret (sE _ O m3).1) pss_nil)))
theorem look_see {n i : Nat} {d : D} (h : i < n) : look (seeG n i d) i = some d := by
  unfold look seeG
  rw [List.getElem?_set_self (by simpa using h)]
  rfl
theorem c11_ok {n : Nat} {ds : List D} (h0 : 0 < n) (h : headOk ds = true) : ∃ a, ev C (wrOf G) c11 (seeG n 0 (.list ds)) = .ok a (seeG n 0 (.list ds)) ∧ tst a (seeG n 0 (.list ds)) = some false := by
  have l0 := look_see (d := .list ds) h0
  generalize seeG n 0 (.list ds) = g at l0 ⊢
  unfold headOk at h
  have z0 : 0 ≤ sizeLine := Nat.zero_le _
  split at h
  · rename_i e1
    refine ⟨.val (.bool false) false, ?_, rfl⟩
    simp [c11, ev, evAnd, evs, rdB, l0, Rs.bind, finLst, vals, z0, finBin, Op.res, cmpO, e1, br, tst, truth]
  · rename_i e1
    split at h
    · rename_i d e2
      split at h
      · rename_i e3
        refine ⟨.val (.bool false) false, ?_, rfl⟩
        simp [c11, ev, evAnd, evs, rdB, l0, Rs.bind, finLst, vals, z0, finBin, finUn, negO, idxO, Op.res, cmpO, e1, e2, e3, br, tst, truth]
      · cases h
    · cases h
  · cases h
theorem list_t {n ki ii : Nat} {σ : L2.St} {H : Hp} {D : Ends} {a : Addr} {xs : List V} {ds : List TL.D} {L : List Addr} {K : PySem.W.Frag} (hl : σ.length = n) (e0 : σ[0]? = some (some (.ref a))) (h0 : 0 < n) (hki : ki < n) (k0 : 0 ≠ ki) (hii : ii < n) (ha : H a = some (.lst xs)) (lx : xs.length ≤ sizeLine) (q : DqA H xs ds L) (na : a ∉ L) (dp : PyData.depthAll ds < k) (mk : markD (.list ds) = true)
    (hX : K = X.K) (hq : ∀ H', Off (a :: L) H H' → NoLess H H' → D.rt (.bl true) H') : tList T G C X.K k ki ii D σ H := by
  rw [markD, Bool.and_eq_true, Bool.and_eq_true, decide_eq_true_eq] at mk
  obtain ⟨⟨mh, ml⟩, ma⟩ := mk
  obtain ⟨o, eo, et⟩ := c11_ok (C := C) (G := G) h0 mh
  refine see_t hl e0 (Dq.rp _ _ _ (.lst lx ha q na)) eo et fun H1 s1 => ?_
  show (if false = true then _ else _)
  rw [if_neg (by decide)]
  unfold tNext
  simp only []
  unfold tSeq tAsg tKept
  refine turns_ok (X := X) e0 (by rw [hl]; exact hii) (s1 a _ ha) lx (DqA.keep _ _ _ (fun b x e _ => s1 b x e) q) na dp ma fun Dd H2 hD nD h2a off nol => ?_
  have aD : Dd ≠ a := fun z => by rw [z, s1 a _ ha] at nD; cases nD
  have eki : (σ.set ki (some (.ref Dd)))[ki]? = some (some (.ref Dd)) := by rw [List.getElem?_set_self (by rw [hl]; exact hki)]
  have e0' : (σ.set ki (some (.ref Dd)))[0]? = some (some (.ref a)) := by rw [List.getElem?_set_ne k0.symm]; exact e0
  have hl' : (σ.set ki (some (.ref Dd))).length = n := by rw [List.length_set]; exact hl
  have ln : (List.replicate xs.length (V.bl true)).length ≤ sizeLine := by rw [List.length_replicate]; exact lx
  have r2 : Rp W0 H2 (.ref Dd) (.list (List.replicate xs.length (.bool true))) := .lst (fun z => z) ln (.inl hD) (rpA_trues _)
  refine ⟨.ref a, e0', .inl ⟨rfl, xs, .inl (.inl h2a)⟩, see_v hl' eki r2 rfl fun u H3 s3 ru => ?_⟩
  have h3a := s3 a _ h2a
  have h3D := s3 Dd _ hD
  refine ⟨a, xs, u, rfl, rfl, h3a, by rw [q.len]; exact ml, ?_⟩
  have h4D : upd H3 a (.lst (xs ++ [u])) Dd = some (.lst (List.replicate xs.length (.bl true))) := by rw [upd_ne aD]; exact h3D
  have r4 : Rp W0 (upd H3 a (.lst (xs ++ [u]))) (.ref Dd) (.list (List.replicate xs.length (.bool true))) := .lst (fun z => z) ln (.inl h4D) (rpA_trues _)
  have nt := notin_tt xs.length
  have lk := look_see (n := n) (d := .list (List.replicate xs.length (.bool true))) hki
  refine see_v (r := .bool true) hl' eki r4 (by
    generalize seeG n ki (.list (List.replicate xs.length (.bool true))) = g at lk ⊢
    simp [ev, rdB, lk, Rs.bind, finBin, Op.res, cmpO, nt]) fun w H5 s5 rw' => ?_
  obtain ⟨W', rw'⟩ := rw'
  cases rw'
  refine hq H5 (fun b x e n => ?_) fun b e => ?_
  · have b1 : b ≠ a := fun z => n (by rw [z]; exact List.mem_cons_self)
    refine s5 b x ?_
    rw [upd_ne b1]
    exact s3 b x (off b x (s1 b x e) fun z => n (List.mem_cons_of_mem _ z))
  · refine Same.free s1 (nol b (Same.free s3 ?_))
    have := Same.free s5 e
    by_cases z : b = a
    · rw [z, upd_same] at this; cases this
    · rw [upd_ne z] at this; exact this
end
end TL
/-! TL28: the defs of a program. -/
namespace TL
open PySem PySem.Spec PyProof.Rows L2
variable [Plc]

def bcOf (F : Fn) (st : Stmt) : BC := ⟨(defScope st).names, F.N, (defScope st).names.map (·.1)⟩
/-- what the checker reads of a def -/
def fnC (G : List Fn) (F : Fn) (st : Stmt) : Bool := mSs G F.body (bcOf F st) (defBody st)
structure DefOk (K : PySem.W.Frag) (mg : Str → Option Value) (G : List Fn) (F : Fn) (f : Addr) (fd : FuncData) : Prop where
  mg : mg F.name = some (.ref f)
  keep : PySem.W.keepIn K (.ref f) = true
  binds : Binds K fd (F.N.take F.np) []
  np : F.np ≤ F.N.length
  kw : ∀ m ∈ F.kw, ∀ (s : Shared) (us ws : List Value), us.length = m → (us ++ ws).length = (F.N.take F.np).length → BindsTo s fd ⟨us, ((F.N.take F.np).drop m).zip ws⟩ ((F.N.take F.np).zip (us ++ ws))
  kp : ∀ q ∈ F.kp, ∀ (s : Shared) (us ws xs : List Value), us.length = q.1 → ws.length = q.2.1.length → permO q.2.2 (us ++ ws) = some xs → BindsTo s fd ⟨us, q.2.1.zip ws⟩ ((F.N.take F.np).zip xs)
  body : ∃ qual st, Fun K F.name qual st f fd ∧ FnScope F.N (F.N.take F.np) (defScope st) ∧ fnC G F st = true
/-- how a class is raised, by the written part alone -/
def RseB (P : Program) (K : PySem.W.Frag) (mg : Str → Option Value) (C : Addr) : Prop :=
  ∃ (D fI : Addr) (fd : FuncData), OexC K C ∧ SupC K C D ∧ PySem.W.findIn K (.ref C) "value" = some none ∧ PySem.W.findIn K (.ref C) "__init__" = some (some (.ref fI)) ∧ PySem.W.typeIn K (.ref fI) = some (.type "function") ∧ Binds K fd ["self", "value"] [] ∧
    ∃ (qual : Str) (params : Arguments) (body : List Stmt) (scope : Scope) (cc cda : Addr) (p0 p1 p2 p3 p4 p5 p6 p7 p8 p9 : Pos), IniScope scope ∧ IniK K P mg qual params body scope D fI cc cda fd ∧ (p2.endLine == p4.line) = true ∧
      body = [.Expr (.Call (.Attribute (.Call (.Name "super" p0) [] [] p1) "__init__" p2) [.Name "value" p3] [] p4) p5, .Assign [.Attribute (.Name "self" p6) "value" p7] (.Name "value" p8) p9]
theorem RseB.mk {P : Program} {w : World} {K : PySem.W.Frag} {mg : Str → Option Value} {base : Heap} {C : Addr} (h : RseB P K mg C) : RseK P w K mg base C := by
  obtain ⟨D, fI, fd, h1, h2, h3, h4, h5, h6, qual, params, body, scope, cc, cda, p0, p1, p2, p3, p4, p5, p6, p7, p8, p9, S, Z, hl, hb⟩ := h
  exact ⟨D, fI, fd, h1, h2, h3, h4, h5, h6, fun k => init_G S Z hl hb⟩
/-- a program -/
structure ProgOk (P : Program) (K : PySem.W.Frag) (mg : Str → Option Value) (G : List Fn) : Prop where
  sysm : ∃ o, K.lookup sysModules = some o
  blt : ∀ x ∈ bltNames, mg x = none
  dig : PySem.W.nsIn K cStatics digK = some none ∧ PySem.W.nsOkIn K cStatics = true
  cons : ∀ (i : Nat) (F : Fn) (d : D), G[i]? = some F → F.kc = some d → ∃ u v, mg F.name = some u ∧ RelV v u ∧ ∀ W H, Rp W H v d
  defs : ∀ (i : Nat) (F : Fn), G[i]? = some F → F.kc = none → ∃ f fd, DefOk K mg G F f fd
  mks : ∀ (i : Nat) (F : Fn), G[i]? = some F → F.mark = true → F = fMarkA i ∨ F = fMarkB i
  mlev : ∀ (i : Nat) (F : Fn), G[i]? = some F → F.mark = true → ∀ n, run G n i [.sh nest3] ≠ .bad → 3 < n
  fav : ∀ (i : Nat) (a : Addr), Plc.fa i a → ∃ F, G[i]? = some F ∧ F.kc = none ∧ mg F.name = some (.ref a)
  fad : ∀ (i : Nat) (F : Fn) (a : Addr), G[i]? = some F → F.kc = none → mg F.name = some (.ref a) → Plc.fa i a
  cav : ∀ (i : Nat) (C : Addr), Plc.ca i C → ExK K C
  cls : ∀ (i : Nat) (F : Fn) (cs : List Nat), G[i]? = some F → F.cl = some cs → ∃ C, mg F.name = some (.ref C) ∧ Plc.ca i C ∧ ClsK K C cs ∧ RseB P K mg C
  mimm : ∀ (i : Nat) (F : Fn), G[i]? = some F → F.mark = true → ∀ (n : Nat) (d : D), immD d = true → d.depth < n → run G n i [.sh d] = .ok (.bool true) false none
section
variable {P : Program} {w : World} {K : PySem.W.Frag} {mg : Str → Option Value} {base : Heap} {G : List Fn}
theorem ran {n i : Nat} {F : Fn} {as : Gv} {a : An} (hF : G[i]? = some F) (h : run G (n + 1) i as = a) (nb : a ≠ .bad) : as.length = F.np ∧ shapeOk F.w as = true ∧ runFn (run G n) (wrOf G) F as = a := by
  have h : (match G[i]? with | none => An.bad | some F => if (as.length == F.np && shapeOk F.w as) = true then runFn (run G n) (wrOf G) F as else .bad) = a := h
  rw [hF] at h
  simp only at h
  by_cases c : (as.length == F.np && shapeOk F.w as) = true
  · rw [if_pos c] at h
    exact ⟨eq_of_beq (and2 c).1, (and2 c).2, h⟩
  · rw [if_neg c] at h
    exact absurd h.symm nb
theorem spF_len {n i : Nat} {F : Fn} (hF : G[i]? = some F) {vs : List V} {H : Hp} {Q : VK} {E : XK} (np : F.np ≤ F.N.length) (h : spF xrP (run G (n + 1)) i vs H Q E) : vs.length = (F.N.take F.np).length := by
  obtain ⟨W, as, G0, h⟩ := h
  have nb : run G (n + 1) i as ≠ .bad := fun z => by simp only [z] at h
  obtain ⟨l, _, _⟩ := ran hF rfl nb
  have := G0.len
  rw [List.length_map] at this
  rw [List.length_take, ← this, l]
  omega
/-- what all defs keep at a level -/
structure LevG (P : Program) (w : World) (K : PySem.W.Frag) (mg : Str → Option Value) (base : Heap) (G : List Fn) (n : Nat) : Prop where
  fn : ∀ (i : Nat) (F : Fn) (f : Addr) (fd : FuncData), G[i]? = some F → DefOk K mg G F f fd → FnG P w K mg base (n + 2) f fd (F.N.take F.np) (spF xrP (run G n) i)
  mrk : ∀ (i : Nat) (F : Fn) (f : Addr) (fd : FuncData), G[i]? = some F → F.mark = true → DefOk K mg G F f fd → FnG P w K mg base (n + 2) f fd (F.N.take F.np) (spM n)
theorem ctx_ok (O : ProgOk P K mg G) {n : Nat} (Lv : LevG P w K mg base G n) {F : Fn} {qual : Str} {st : Stmt} {f : Addr} {cdv : Value} {A : Around} {outer : List Env} {s : Shared} {H : Hp} {E : XK} (S : FnScope F.N (F.N.take F.np) (defScope st)) (hg : A.guards = some []) (hr : Room (n + 2) (A.deeper (envOfC qual (defScope st) s.heap.objs.size f cdv))) :
    XOk { xr := xrP, wx := fun cls d _ H => E cls d H } G (run G n) n (bcOf F st) (cxOf (L2.CX P w) P w K mg base F.N qual (defScope st) f cdv A outer s H E) where
  names := rfl
  kind := S.kind
  N := rfl
  own := fun _ _ => rfl
  nd := S.nd
  calm := rfl
  gd := hg
  room := hr
  sysm := O.sysm
  takes := takes_of (E := E) rfl rfl rfl rfl
  cons := O.cons
  fns := fun j F' hj hk => by
    obtain ⟨f', fd', d'⟩ := O.defs j F' hj hk
    exact ⟨f', fd', d'.mg, d'.keep, d'.binds, Lv.fn j F' f' fd' hj d', d'.kw, d'.kp⟩
  marks := fun j F' hj hm => by
    have hk : F'.kc = none := by rcases O.mks j F' hj hm with rfl | rfl <;> rfl
    obtain ⟨f', fd', d'⟩ := O.defs j F' hj hk
    exact ⟨f', fd', d'.mg, d'.keep, d'.binds, Lv.mrk j F' f' fd' hj hm d'⟩
  mlev := fun j F' hj hm => O.mlev j F' hj hm n
  blt := O.blt
  dig := O.dig
  xrq := rfl
  fav := O.fav
  fad := O.fad
  cav := O.cav
  cls := fun i F cs h1 h2 => by
    obtain ⟨C, m, ca, ok, r⟩ := O.cls i F cs h1 h2
    exact ⟨C, m, ca, ok, r.mk⟩
theorem run_step (O : ProgOk P K mg G) {n : Nat} (Lv : LevG P w K mg base G n) (i : Nat) (F : Fn) (f : Addr) (fd : FuncData) (hF : G[i]? = some F) (d : DefOk K mg G F f fd) : FnG P w K mg base (n + 1 + 2) f fd (F.N.take F.np) (spF xrP (run G (n + 1)) i) := by
    obtain ⟨qual, st, hfun, S, hc⟩ := d.body
    refine fn_G hfun S (fun vs H Q E h => spF_len hF d.np h) fun cdv A outer s H vs Q E hg hr h => ?_
    have hl := spF_len hF d.np h
    obtain ⟨W, as, G0, h⟩ := h
    let X := cxOf (L2.CX P w) P w K mg base F.N qual (defScope st) f cdv A outer s H E
    let T : Th := { xr := xrP, wx := fun cls d _ H => E cls d H }
    have ps : Pas X := ⟨passes_of rfl, rfl, rfl, rfl⟩
    have ok : XOk T G (run G n) n (bcOf F st) X := ctx_ok O Lv S hg hr
    refine ⟨_, sSs F.body ok ps hc, ?_⟩
    have nb : run G (n + 1) i as ≠ .bad := fun z => by simp only [z] at h
    obtain ⟨la, hs, hrun⟩ := ran hF rfl nb
    have e : F.N.length - vs.length = F.N.length - F.np := by rw [hl, List.length_take, Nat.min_eq_left d.np]
    refine ⟨W, as ++ List.replicate (F.N.length - F.np) Slot.un, frame_ok G0 e, ?_⟩
    rw [← hrun] at h nb
    unfold runFn at h nb
    cases q : exs (run G n) (wrOf G) F.body (as ++ List.replicate (F.N.length - F.np) Slot.un) with
    | bad => rw [q] at nb; exact absurd rfl nb
    | ex c fs g' =>
      rw [q] at h nb
      simp only at h nb
      cases q2 : ioOf F.w g' with
      | none => rw [q2] at nb; exact absurd rfl nb
      | some io =>
        rw [q2] at h
        simp only at h
        intro cls d' σ' H' W' s' G' x
        obtain ⟨G2, s2⟩ := exit_ok G0 e s' G' hs q2
        exact h cls d' H' W' s2 G2 x
    | ok fl g' =>
      rw [q] at h nb
      simp only at h nb
      cases q2 : ioOf F.w g' with
      | none => rw [q2] at nb; exact absurd rfl nb
      | some io =>
        rw [q2] at h nb
        simp only at h nb
        intro σ' H' W' s' G'
        obtain ⟨G2, s2⟩ := exit_ok G0 e s' G' hs q2
        cases fl with
        | brk => exact absurd rfl nb
        | cont => exact absurd rfl nb
        | next => exact h .non H' W' s2 G2 .non
        | ret d' own => exact fun v r => h v H' W' s2 G2 (exit_ret G0 s' hs q2 r)
/-- _law_marked of a list -/
def spL (n : Nat) : Sp := fun vs H Q E => ∃ a xs ds L, vs = [V.ref a] ∧ xs.length ≤ sizeLine ∧ H a = some (.lst xs) ∧ DqA H xs ds L ∧ a ∉ L ∧ PyData.depthAll ds < n ∧ markD (.list ds) = true ∧ ∀ H', Off (a :: L) H H' → NoLess H H' → Q (.bl true) H'
theorem isl_ok {C : Calls} {wr : Nat → Bool} {n : Nat} {d : D} {t : Ty} (h : 0 < n) (td : tyd d = true) : ev C wr (.isi (.b 0) t) (seeG n 0 d) = .ok (.val (.bool (isTy t d)) false) (seeG n 0 d) ∧ tst (.val (.bool (isTy t d)) false) (seeG n 0 d) = some (isTy t d) := by
  have l := look_see (d := d) h
  generalize seeG n 0 d = g at l ⊢
  refine ⟨?_, rfl⟩
  simp [ev, rdB, l, Rs.bind, finUn, Op.res, tyO, td]
theorem mark_list (O : ProgOk P K mg G) {n : Nat} (Lv : LevG P w K mg base G n) (i : Nat) (F : Fn) (f : Addr) (fd : FuncData) (hF : G[i]? = some F) (hm : F.mark = true) (d : DefOk K mg G F f fd) : FnG P w K mg base (n + 1 + 2) f fd (F.N.take F.np) (spL n) := by
  obtain ⟨qual, st, hfun, S, hc⟩ := d.body
  have hAB := O.mks i F hF hm
  refine fn_G hfun S (fun vs H Q E h => by obtain ⟨a, xs, ds, L, rfl, _⟩ := h; rcases hAB with rfl | rfl <;> rfl) fun cdv A outer s H vs Q E hg hr h => ?_
  obtain ⟨a, xs, ds, L, rfl, lx, ha, q, na, dp, mk, hq⟩ := h
  let X := cxOf (L2.CX P w) P w K mg base F.N qual (defScope st) f cdv A outer s H E
  let T : Th := { xr := xrP, wx := fun cls d _ H => E cls d H }
  have ok : XOk T G (run G n) n (bcOf F st) X := ctx_ok O Lv S hg hr
  have e0 : (L2.start F.N [.ref a])[0]? = some (some (.ref a)) := rfl
  have rp : Rp W0 H (.ref a) (.list ds) := Dq.rp _ _ _ (.lst lx ha q na)
  rcases hAB with rfl | rfl
  · have hc : mSs G (.cons (.ife (.isi (.b 0) .list) (mkList 1 2 i) .nil) _) (bcOf (fMarkA i) st) (defBody st) = true := hc
    obtain ⟨a0, r0, eb, h0, h⟩ := mSs_cons hc
    obtain ⟨c', x, y, pos, rfl, t1, t2, t3, t4⟩ := mS_ife h0
    have := mSs_nil t4
    subst this
    rw [eb]
    have hl : (L2.start (fMarkA i).N [.ref a]).length = 3 := rfl
    refine ⟨_, pss_cons (ps_if ((sE _ ok t2).2 t1) (list_ps ok hF hm t3) pss_nil) pss_never, ?_⟩
    obtain ⟨i1, i2⟩ := isl_ok (C := run G n) (wr := wrOf G) (n := 3) (d := .list ds) (t := .list) (by decide) rfl
    refine see_t (T := T) hl e0 rp i1 i2 fun H1 s1 => ?_
    show (if true = true then _ else _)
    rw [if_pos rfl]
    exact list_t (X := X) (T := T) hl e0 (by decide) (by decide) (by decide) (by decide) (s1 a _ ha) lx (DqA.keep _ _ _ (fun b x e _ => s1 b x e) q) na dp mk rfl fun H' o n => hq H' ((same_off s1).trans o) fun b e => Same.free s1 (n b e)
  · have hc : mSs G (.cons (.ife (.isi (.b 0) .dict) (.cons .nope (.cons .nope (.cons .nope .nil))) .nil) (.cons (.ife (.isi (.b 0) .list) (mkList 2 3 i) .nil) _)) (bcOf (fMarkB i) st) (defBody st) = true := hc
    obtain ⟨a0, r0, eb, h0, h⟩ := mSs_cons hc
    obtain ⟨a1, r1, eb1, h1, h⟩ := mSs_cons h
    obtain ⟨c', x, y, pos, rfl, t1, t2, t3, t4⟩ := mS_ife h0
    have := mSs_nil t4
    subst this
    obtain ⟨c2, x2, y2, pos2, rfl, u1, u2, u3, u4⟩ := mS_ife h1
    have := mSs_nil u4
    subst this
    rw [eb, eb1]
    have hl : (L2.start (fMarkB i).N [.ref a]).length = 4 := rfl
    refine ⟨_, pss_cons (ps_if ((sE _ ok t2).2 t1) pss_never pss_nil) (pss_cons (ps_if ((sE _ ok u2).2 u1) (list_ps ok hF hm u3) pss_nil) pss_never), ?_⟩
    obtain ⟨j1, j2⟩ := isl_ok (C := run G n) (wr := wrOf G) (n := 4) (d := .list ds) (t := .dict) (by decide) rfl
    refine see_t (T := T) hl e0 rp j1 j2 fun H0 s0 => ?_
    show (if false = true then _ else _)
    rw [if_neg (by decide)]
    obtain ⟨i1, i2⟩ := isl_ok (C := run G n) (wr := wrOf G) (n := 4) (d := .list ds) (t := .list) (by decide) rfl
    have q0 := DqA.keep _ _ _ (fun b x e _ => s0 b x e) q
    have ha0 := s0 a _ ha
    refine see_t (T := T) hl e0 (Dq.rp _ _ _ (.lst lx ha0 q0 na)) i1 i2 fun H1 s1 => ?_
    show (if true = true then _ else _)
    rw [if_pos rfl]
    exact list_t (X := X) (T := T) hl e0 (by decide) (by decide) (by decide) (by decide) (s1 a _ ha0) lx (DqA.keep _ _ _ (fun b x e _ => s1 b x e) q0) na dp mk rfl fun H' o n => hq H' ((same_off s0).trans ((same_off s1).trans o)) fun b e => Same.free s0 (Same.free s1 (n b e))
theorem mark_step (O : ProgOk P K mg G) {n : Nat} (Lv : LevG P w K mg base G n) (i : Nat) (F : Fn) (f : Addr) (fd : FuncData) (hF : G[i]? = some F) (hm : F.mark = true) (d : DefOk K mg G F f fd) : FnG P w K mg base (n + 1 + 2) f fd (F.N.take F.np) (spM (n + 1)) := by
  have R := run_step O Lv i F f fd hF d
  have L := mark_list O Lv i F f fd hF hm d
  have l1 : (F.N.take F.np).length = 1 := by rcases O.mks i F hF hm with rfl | rfl <;> rfl
  refine ⟨fun vs H Q E h => by obtain ⟨v, d, L, rfl, _⟩ := h; rw [l1]; rfl, fun A outer s H args us vs Q E hg hr e0 hb r h => ?_⟩
  obtain ⟨v, dd, M, rfl, q, dp, mk, hq⟩ := h
  cases q with
  | imm im rp =>
    refine R.run A outer s H args us [v] Q E hg hr e0 hb r ⟨W0, [.sh dd], ?_, ?_⟩
    · exact {
        len := rfl
        wok := fun b w => w.elim
        sh := fun j d' h => by
          cases j with
          | zero =>
            have h : some (Slot.sh dd) = some (.sh d') := h
            cases h
            exact ⟨v, rfl, rp⟩
          | succ j => cases h
        hd := fun j s d' h hd => by
          cases j with
          | zero =>
            have h : some (Slot.sh dd) = some s := h
            cases h
            cases hd
          | succ j => cases h
        inj := fun j k s t a _ h _ m _ _ => by
          cases j with
          | zero =>
            have h : some (Slot.sh dd) = some s := h
            cases h
            cases m
          | succ j => cases h }
    · rw [O.mimm i F hF hm (n + 1) dd im dp]
      intro u H' W' s' G' ru
      have ru : Rp W' H' u (.bool true) := ru
      cases ru
      refine hq H' (fun b x e _ => s'.keep b x e fun ⟨j, t, h, m, _⟩ => ?_) s'.there
      cases j with
      | zero =>
        have h : some (Slot.sh dd) = some t := h
        cases h
        cases m
      | succ j => cases h
  | @lst a xs ds L1 lx ha qa na =>
    have dp' : PyData.depthAll ds < n := by
      simp [PyData.depth] at dp
      omega
    exact L.run A outer s H args us [.ref a] Q E hg hr e0 hb r ⟨a, xs, ds, L1, rfl, lx, ha, qa, na, dp', mk, hq⟩
theorem lev (O : ProgOk P K mg G) : ∀ n : Nat, LevG P w K mg base G n
  | 0 => ⟨fun i F f fd hF d => ⟨fun vs H Q E h => by obtain ⟨_, _, _, h⟩ := h; exact h.elim, fun _ _ _ _ _ _ _ _ _ _ _ _ _ _ h => by obtain ⟨_, _, _, h⟩ := h; exact h.elim⟩,
      fun i F f fd hF hm d => ⟨fun vs H Q E h => by obtain ⟨_, _, _, _, _, h, _⟩ := h; exact absurd h (Nat.not_lt_zero _), fun _ _ _ _ _ _ _ _ _ _ _ _ _ _ h => by obtain ⟨_, _, _, _, _, h, _⟩ := h; exact absurd h (Nat.not_lt_zero _)⟩⟩
  | n + 1 => ⟨run_step O (lev O n), mark_step O (lev O n)⟩
theorem run_spec (O : ProgOk P K mg G) (n i : Nat) (F : Fn) (f : Addr) (fd : FuncData) (hF : G[i]? = some F) (d : DefOk K mg G F f fd) : FnG P w K mg base (n + 2) f fd (F.N.take F.np) (spF xrP (run G n) i) := (lev O n).fn i F f fd hF d
end
end TL
/-! TL29: the end of a law: from the plain statement to the row. -/
namespace TL
open PySem PySem.Spec PyProof.Rows L2

/-- among what the top has written there is no list -/
def noList (K : PySem.W.Frag) : Bool := K.all fun p => match p.2.cls with
  | .type t => !(t == "list")
  | _ => true
theorem noList_ok {K : PySem.W.Frag} (h : noList K = true) {b : Addr} {o : Obj} (e : K.lookup b = some o) : o.cls ≠ .type "list" := by
  have m : (b, o) ∈ K := by
    clear h
    induction K with
    | nil => cases e
    | cons p r ih =>
      obtain ⟨c, q⟩ := p
      rw [List.lookup_cons] at e
      cases z : (b == c) with
      | true =>
        rw [z] at e
        cases e
        rw [beq_iff_eq.mp z]
        exact List.mem_cons_self
      | false =>
        rw [z] at e
        exact List.mem_cons_of_mem _ (ih e)
  have q := List.all_eq_true.mp h _ m
  intro z
  simp only [z] at q
  exact absurd q (by decide)
/-- the script alone is tracked -/
def scriptH (a : Addr) (o : Obj) (xs : List V) : Hp := fun b => if b = a then some (.frz o (.lst xs)) else none
theorem script_rd {a : Addr} {o : Obj} {xs : List V} : Rd (scriptH a o xs) a (.lst xs) := .inr ⟨o, if_pos rfl⟩
theorem script_off {a b : Addr} {o : Obj} {xs : List V} (h : b ≠ a) : scriptH a o xs b = none := if_neg h
theorem law_run {P : Program} {w : World} {K : PySem.W.Frag} {mg mb : Str → Option Value} {k : Nat} {fa a : Addr} {fd : FuncData} {x : Str} {sp : Sp} {s₁ : Shared} {vs : List Value} {ns : List Int}
    (KX : K.In s₁.heap) (noL : noList K = true) (g1 : s₁.heap.Ns mainGlobals mg) (g2 : s₁.heap.Ns builtinsNs mb) (g3 : ∀ y : Str, y ≠ "__name__" → mb y = bootBuiltins y) (g4 : s₁.heap.NoLimit) (g5 : s₁.gens = #[])
    (ha : s₁.heap.get? a = some { cls := .type "list", data := .seq vs.toArray }) (hi : IntsAre vs ns) (hl : ns.length ≤ sizeLine) (hr : Room k callerA)
    (F : ∀ base : Heap, K.In base → base.Ns mainGlobals mg → FnG P w K mg base k fa fd [x] sp) (hb : ∀ (s : Shared) (u : Value), BindsTo s fd ⟨[u], []⟩ [(x, u)])
    (hsp : ∀ H : Hp, Rd H a (.lst (ns.map V.int)) → sp [.ref a] H (fun v _ => v = .bl true) fun _ _ _ => False) :
    codeAny (model P w) callerA (.call (.ref fa) ⟨[.ref a], []⟩) (fun r s' => r = .ok (.ret (.bool true)) ∧ OldK s₁.heap s'.heap ∧ s'.os = s₁.os ∧ AllBare s'.gens) s₁ := by
  have rv := vals_ints hi
  have lenV := hi.length
  let O : Obj := { cls := .type "list", data := .seq vs.toArray }
  let H : Hp := scriptH a O (ns.map V.int)
  have nK : K.lookup a = none := by
    cases q : K.lookup a with
    | none => rfl
    | some o =>
      have e := KX a o q
      rw [ha] at e
      cases e
      exact absurd rfl (noList_ok noL q)
  have off : ∀ {b : Addr} {o : Obj}, s₁.heap.get? b = some o → o ≠ O → H b = none := fun {b o} e n => script_off fun z => by
    subst z
    rw [ha] at e
    exact n (Option.some.inj e).symm
  have nsK : ∀ {b : Addr} {m : Str → Option Value}, s₁.heap.Ns b m → (hidT s₁.heap H).Ns b m := fun {b m} ⟨o, es, ep, e, d, r⟩ =>
    ⟨o, es, ep, hidT_get e (off e fun z => by
      rw [z] at d
      have d' : Data.seq vs.toArray _ = Data.dict es ep := d
      cases d'), d, r⟩
  have inK : K.In (hidT s₁.heap H) := fun b o e => hidT_get (KX b o e) (script_off fun z => by
    subst z
    rw [nK] at e
    cases e)
  have md : Mod K mg (hidT s₁.heap H) := ⟨inK, nsK g1, ⟨mb, nsK g2, g3⟩, let ⟨mc, h1, h2⟩ := g4; ⟨mc, nsK h1, h2⟩⟩
  have hok : HOk P w H s₁.heap := fun b u z => by
    by_cases q : b = a
    · subst q
      have z' : some (HO.frz O (.lst (ns.map V.int))) = some u := (if_pos rfl).symm.trans z
      cases z'
      exact ⟨ha, by rw [List.length_map]; exact hl, vs, _, rv, ha⟩
    · have z' : (none : Option HO) = some u := (script_off q).symm.trans z
      cases z'
  have none0 : ∀ {b : Addr} {p : Prop}, b ∈ ([] : List Addr) → p := fun z => absurd z (by simp)
  have e0 : Env0 P w K mg (hidT s₁.heap H) callerA [] s₁ H := ⟨rfl, md, fun b o e => of_hidT e, Nat.le_of_eq (hidT_size _ _), trivial, fun b hb => none0 hb, hok, .of_eq g5⟩
  have run := (F _ inK (nsK g1)).run callerA [] s₁ H ⟨[.ref a], []⟩ [.ref a] [.ref a] _ _ rfl hr e0 (hb s₁ (.ref a)) (.cons rfl .nil) (hsp H script_rd)
  refine codeAny_mono run fun r s' h => ?_
  cases r with
  | error e =>
    obtain ⟨_, _, _, _, _, _, _, _, _, _, _, _, z⟩ := h
    exact z.elim
  | ok fl =>
    cases fl with
    | next => exact h.elim
    | brk => exact h.elim
    | cont => exact h.elim
    | ret u =>
      obtain ⟨v, H', os, bare, un, hok', r', q⟩ := h
      have q' : v = .bl true := q
      subst q'
      have ru : u = Value.bool true := r'
      subst ru
      refine ⟨rfl, OldK.of_keep fun b o e => ?_, os, bare⟩
      by_cases q : b = a
      · subst q
        have z := un.frzs b O (.lst (ns.map V.int)) (if_pos rfl)
        obtain ⟨e2, _⟩ := hok' b _ z
        rw [ha] at e
        cases e
        exact e2
      · exact un.keep b o e (script_off q) (fun z => none0 z) (by simp)
/-- the row: what k_head leaves -/
theorem walk_G {l : PySem.W.OpenLaw} {n k : Nat} {q : Program} {loose : List Str} {XP : (Str → Option Value) → Heap → Prop} {YP : World → Heap → Prop} {d : DefRec} {K : Params → PySem.W.Frag} {x : Str}
    (hn : l.most = some n) (hn2 : n ≤ sizeLine) (hdf : d.params.defaults = []) (hr : Room k callerA)
    (hY : ∀ (w : World) (h : Heap), YP w h → (K w.params).In h) (noL : ∀ w : World, noList (K w.params) = true)
    (F : ∀ (w : World) (mg : Str → Option Value) (fa : Addr) (h : Heap), (K w.params).In h → h.Ns mainGlobals mg → mg d.name = some (.ref fa) →
      ∃ (fd : FuncData) (sp : Sp), (∀ (s : Shared) (u : Value), BindsTo s fd ⟨[u], []⟩ [(x, u)]) ∧ (∀ base : Heap, (K w.params).In base → base.Ns mainGlobals mg → FnG l.prog w (K w.params) mg base k fa fd [x] sp) ∧
        ∀ (a : Addr) (ns : List Int) (H : Hp), ns.length ≤ n → (∀ z ∈ ns, Builtin.Int.intBits z ≤ 1048576) → Rd H a (.lst (ns.map V.int)) → sp [.ref a] H (fun v _ => v = .bl true) fun _ _ _ => False) :
    PySem.W.WalkO q loose XP YP l.row.toRowW d [] (fun f vs => PySem.call f vs) := by
  refine Att.attach_callB hn hdf fun w s₀ s₁ mg mb fa o pm cd doc a vs ns G Y ho hd hcd hmg hobj hints hlen hbits hg => ?_
  have KX := hY w _ Y
  obtain ⟨fd, sp, hb, hF, hsp⟩ := F w mg fa _ KX G.T.g hmg
  exact law_run KX (noL w) G.T.g G.T.b G.T.builtins G.T.nolimit hg hobj hints (Nat.le_trans hlen hn2) hr hF hb fun H hS => hsp a ns H hlen hbits hS
variable [Plc]
/-- the script as data -/
def scriptD (ns : List Int) : D := .list (ns.map PyData.int)
theorem rpA_ints {W : Addr → Prop} {H : Hp} : ∀ ns : List Int, RpA W H (ns.map V.int) (ns.map PyData.int)
  | [] => .nil
  | n :: r => .cons (.int n) (rpA_ints r)
theorem script_sp {xr : XR} {C : Calls} {i : Nat} {a : Addr} {ns : List Int} {H : Hp} {Q : VK} {E : XK} (h : C i [.sh (scriptD ns)] = .ok (.bool true) false none) (hl : ns.length ≤ sizeLine) (r : Rd H a (.lst (ns.map V.int))) (q : ∀ H', Q (.bl true) H') : spF xr C i [.ref a] H Q E := by
  refine ⟨fun _ => False, [.sh (scriptD ns)], ⟨rfl, fun _ z => z.elim, fun j d e => ?_, fun j s d e hd => ?_, fun i j s t b n e1 e2 m hd => ?_⟩, ?_⟩
  · cases j with
    | succ j => simp at e
    | zero =>
      cases e
      exact ⟨.ref a, rfl, .lst (fun z => z) (by rw [List.length_map]; exact hl) r (rpA_ints ns)⟩
  · cases j with
    | succ j => simp at e
    | zero => cases e; cases hd
  · cases i with
    | succ j => simp at e1
    | zero => cases e1; cases m
  · rw [h]
    intro v H' W' _ _ rv
    cases rv
    exact q H'
end TL
/-! TL30: how the language's text computes, step by step (for simp). -/
namespace TL
open PySem
local instance : Plc := ⟨fun _ _ => False, fun _ _ => False⟩
theorem run_at {G : List Fn} {n i : Nat} {F : Fn} {as : Gv} (h : G[i]? = some F) : run G (n + 1) i as = if (as.length == F.np && shapeOk F.w as) = true then runFn (run G n) (wrOf G) F as else .bad := by
  show (match G[i]? with | none => An.bad | some F => _) = _
  rw [h]
section
variable {α β : Type} {C : Calls} {wr : Nat → Bool} {g : Gv}
@[simp] theorem bind_okS (a : α) (f : α → Gv → Rs β) : (Rs.ok a g).bind f = f a g := rfl
@[simp] theorem bind_badS (f : α → Gv → Rs β) : (Rs.bad : Rs α).bind f = .bad := rfl
@[simp] theorem bind_exS (c : Nat) (fs : List D) (f : α → Gv → Rs β) : (Rs.ex c fs g : Rs α).bind f = .ex c fs g := rfl
@[simp] theorem ev_v (i : Nat) : ev C wr (.v i) g = rdV i g := rfl
@[simp] theorem ev_mv (i : Nat) : ev C wr (.mv i) g = rdM i g := rfl
@[simp] theorem ev_b (i : Nat) : ev C wr (.b i) g = rdB i g := rfl
@[simp] theorem ev_k (d : D) : ev C wr (.k d) g = .ok (.val d false) g := rfl
@[simp] theorem ev_bin (o : Operator) (x y : E) : ev C wr (.bin o x y) g = (ev C wr x g).bind fun a g => (ev C wr y g).bind fun b g => finBin (binD o) a b g := rfl
@[simp] theorem ev_neg (x : E) : ev C wr (.neg x) g = (ev C wr x g).bind fun a g => finUn negO a g := rfl
@[simp] theorem ev_cmp (o : CmpOp) (x y : E) : ev C wr (.cmp o x y) g = (ev C wr x g).bind fun a g => (ev C wr y g).bind fun b g => finBin (cmpO o) a b g := rfl
@[simp] theorem ev_cmp2 (o o' : CmpOp) (x y z : E) : ev C wr (.cmp2 o o' x y z) g = (ev C wr x g).bind fun a g => (ev C wr y g).bind fun b g => br (cmpB o a b g) ((ev C wr z g).bind fun c g => finBin (cmpO o') b c g) (.ok (.val (.bool false) false) g) := rfl
@[simp] theorem ev_is (x : E) (s : Sing) (n : Bool) : ev C wr (.is x s n) g = (ev C wr x g).bind fun a g => finUn (isO s n) a g := rfl
@[simp] theorem ev_and (es : Es) : ev C wr (.and es) g = evAnd C wr es g := rfl
@[simp] theorem ev_or (es : Es) : ev C wr (.or es) g = evOr C wr es g := rfl
@[simp] theorem ev_not (x : E) : ev C wr (.not x) g = (ev C wr x g).bind fun a g => finUn notO a g := rfl
@[simp] theorem ev_ife (c x y : E) : ev C wr (.ife c x y) g = (ev C wr c g).bind fun a g => br (tst a g) (ev C wr x g) (ev C wr y g) := rfl
@[simp] theorem ev_tup (es : Es) : ev C wr (.tup es) g = (evs C wr es g).bind fun os g => finTup os g := rfl
@[simp] theorem ev_lst (es : Es) : ev C wr (.lst es) g = (evs C wr es g).bind fun os g => finLst os g := rfl
@[simp] theorem ev_lcK (vs : List Nat) (tg : Tg) (i : Nat) (x : E) : ev C wr (.lcK vs tg i x) g = match shDict g i with
    | none => .bad
    | some ds => finLc vs tg false (fun g => .ok true g) (ev C wr x) (ds.map (·.1), []) g := rfl
@[simp] theorem ev_fnd (o x : E) : ev C wr (.fnd o x) g = (ev C wr o g).bind fun a g => match a.res g with
    | some (.str z) => (ev C wr x g).bind fun b g => finUn (findD z) b g
    | _ => .bad := rfl
@[simp] theorem ev_sset (x : E) : ev C wr (.sset x) g = (ev C wr x g).bind fun a g => finUn ssetD a g := rfl
@[simp] theorem ev_dk (k d : D) : ev C wr (.dk k d) g = .ok (.val (.dict [(k, d)]) true) g := rfl
@[simp] theorem ev_dct : ev C wr .dct g = .ok (.val (.dict []) true) g := rfl
@[simp] theorem ev_idx (x y : E) : ev C wr (.idx x y) g = (ev C wr x g).bind fun a g => (ev C wr y g).bind fun b g => finBin idxO a b g := rfl
@[simp] theorem ev_sl (x : E) (lo hi : Eo) : ev C wr (.sl x lo hi) g = (ev C wr x g).bind fun a g => (evo C wr lo g).bind fun l g => (evo C wr hi g).bind fun h g => finSl l h a g := rfl
@[simp] theorem ev_call (f : Nat) (es : Es) : ev C wr (.call f es) g = (evs C wr es g).bind fun os g => callR C f (wr f) os g := rfl
@[simp] theorem ev_callk (f : Nat) (es ks : Es) : ev C wr (.callk f es ks) g = ((evs C wr es g).bind fun as g => (evs C wr ks g).bind fun bs g => .ok (as ++ bs) g).bind fun os g => callR C f (wr f) os g := rfl
@[simp] theorem ev_bi (f : BI) (es : Es) : ev C wr (.bi f es) g = (evs C wr es g).bind fun os g => finBi (biD f) os g := rfl
@[simp] theorem ev_me (m : ME) (x : E) : ev C wr (.me m x) g = (ev C wr x g).bind fun a g => finUn (meD m) a g := rfl
@[simp] theorem ev_isi (x : E) (t : Ty) : ev C wr (.isi x t) g = (ev C wr x g).bind fun a g => finUn (tyO t) a g := rfl
@[simp] theorem ev_g (i : Nat) (d : D) : ev C wr (.g i d) g = .ok (.val d false) g := rfl
@[simp] theorem ev_rev (x : E) : ev C wr (.rev x) g = (ev C wr x g).bind fun a g => finUn revD a g := rfl
@[simp] theorem ev_join (o x : E) : ev C wr (.join o x) g = (ev C wr o g).bind fun a g => match a.res g with
    | some (.str z) => (ev C wr x g).bind fun b g => finUn (joinD (.str z)) b g
    | _ => .bad := rfl
@[simp] theorem ex_stoD (i : Nat) (y x : E) : ex C wr (.stoD i y x) g = (ev C wr x g).bind fun a g => match mutDc g i with
    | none => .bad
    | some _ => (ev C wr y g).bind fun b g => finStoD i a b g := rfl
@[simp] theorem ex_sto2 (i j : Nat) (y z : E) (es : Es) : ex C wr (.sto2 i y j z es) g = (evs C wr es g).bind fun os g => sto2R (ev C wr y) (ev C wr z) i j os g := rfl
@[simp] theorem sto2R_c (fy fz : Gv → Rs Op) (i j : Nat) (d e : D) : sto2R fy fz i j [.val d false, .val e false] g = match mutL g i with
    | none => .bad
    | some _ => (fy g).bind fun b g => (finSto i (.val d false) b g).bind fun _ g => match mutL g j with
      | none => .bad
      | some _ => (fz g).bind fun b g => (finSto j (.val e false) b g).bind fun _ g => .ok .next g := rfl
@[simp] theorem ex_parO (is : List Nat) (es : Es) : ex C wr (.parO is es) g = (evs C wr es g).bind fun os g => finParO is os g := rfl
@[simp] theorem ev_m1 (m : M1) (o x : E) : ev C wr (.m1 m o x) g = (ev C wr o g).bind fun a g => match a.res g with
    | some (.list _) => (ev C wr x g).bind fun b g => finBin (m1D m) a b g
    | _ => .bad := rfl
@[simp] theorem ev_bor (is : List Nat) (x : E) : ev C wr (.bor is x) g = match ev C wr x (frz is g) with
    | .ok (.val d _) _ => if scalarD d = true then .ok (.val d false) g else .bad
    | _ => .bad := rfl
@[simp] theorem ev_isT (x : E) (ts : List Ty) : ev C wr (.isT x ts) g = (ev C wr x g).bind fun a g => finUn (tysO ts) a g := rfl
@[simp] theorem ev_callp (f : Nat) (es ks : Es) (kn : List Str) (pm : List Nat) : ev C wr (.callp f es ks kn pm) g = (((evs C wr es g).bind fun as g => (evs C wr ks g).bind fun bs g => .ok (as ++ bs) g).bind fun os g => ofO (permO pm os) g).bind fun os g => callR C f (wr f) os g := rfl
@[simp] theorem ev_lc (vs : List Nat) (tg : Tg) (it : It) (cs : Es) (x : E) : ev C wr (.lc vs tg it cs x) g = (evIt C wr it g).bind fun p g => finLc vs tg it.isRng (evTs C wr cs) (ev C wr x) p g := rfl
@[simp] theorem ev_app (i : Nat) (x : E) : ev C wr (.app i x) g = match mutL g i with
    | none => .bad
    | some _ => (ev C wr x g).bind fun a g => finApp i a g := rfl
@[simp] theorem ev_lrg1 (x : E) : ev C wr (.lrg1 x) g = (ev C wr x g).bind fun a g => finUn lrgD a g := rfl
@[simp] theorem ev_lrg2 (x y : E) : ev C wr (.lrg2 x y) g = (ev C wr x g).bind fun a g => (ev C wr y g).bind fun b g => finBin lrg2D a b g := rfl
@[simp] theorem ev_lenr (x : E) : ev C wr (.lenr x) g = (ev C wr x g).bind fun a g => finUn lenrD a g := rfl
@[simp] theorem ev_dx (x : E) (d : D) : ev C wr (.dx x d) g = (ev C wr x g).bind fun a g => finUn (dxD d) a g := rfl
@[simp] theorem ev_get1 (o x : E) : ev C wr (.get1 o x) g = (ev C wr o g).bind fun a g => match isDk a g with
    | true => (ev C wr x g).bind fun b g => finBin get1D a b g
    | false => .bad := rfl
@[simp] theorem ev_get2 (o x y : E) : ev C wr (.get2 o x y) g = (ev C wr o g).bind fun a g => match isDk a g with
    | true => (ev C wr x g).bind fun b g => (ev C wr y g).bind fun c g => match c.res g with
      | some df => finBin (get2D df) a b g
      | none => .bad
    | false => .bad := rfl
@[simp] theorem ev_fv (i : Nat) : ev C wr (.fv i) g = .ok (.val (fnD i) false) g := rfl
@[simp] theorem ev_callv (i : Nat) (es : Es) : ev C wr (.callv i es) g = (rdB i g).bind fun a g => match resFn a g with
    | none => .bad
    | some f => (evs C wr es g).bind fun os g => callR C f (wr f) os g := rfl
@[simp] theorem ev_isC (x : E) (c : Nat) (cs : List Nat) : ev C wr (.isC x c cs) g = (ev C wr x g).bind fun a g => finUn (isCO cs) a g := rfl
@[simp] theorem ev_isV (x : E) : ev C wr (.isV x) g = (ev C wr x g).bind fun a g => finUn isVO a g := rfl
@[simp] theorem ev_fld (x : E) : ev C wr (.fld x) g = (ev C wr x g).bind fun a g => finUn (fldO 0) a g := rfl
@[simp] theorem ex_rse (c : Nat) (x : E) : ex C wr (.rse c x) g = (ev C wr x g).bind fun a g => finRse c a g := rfl
@[simp] theorem finRse_v (c : Nat) (d : D) (own : Bool) : finRse c (.val d own) g = .ex c [d] g := rfl
@[simp] theorem ex_tr (p : Ss) (c : Nat) (cs : List Nat) (e i : Nat) : ex C wr (.tr p c cs e i) g = trR cs e i (exs C wr p g) := rfl
@[simp] theorem trR_ok (cs : List Nat) (e i : Nat) (f : Fl) : trR cs e i (.ok f g) = .ok f g := rfl
@[simp] theorem trR_ex (cs : List Nat) (e i c : Nat) (fs : List D) : trR cs e i (.ex c fs g) = match cs.contains c with
    | true => caught c fs e i g
    | false => .ex c fs g := rfl
@[simp] theorem ev_pop (i : Nat) : ev C wr (.pop i) g = finPop i g := rfl
@[simp] theorem ev_popk (i : Nat) (x : E) : ev C wr (.popk i x) g = match mutL g i with
    | none => .bad
    | some _ => (ev C wr x g).bind fun a g => finPopk i a g := rfl
@[simp] theorem evo_no : evo C wr .no g = .ok none g := rfl
@[simp] theorem evo_so (x : E) : evo C wr (.so x) g = (ev C wr x g).bind fun a g => finPart a g := rfl
@[simp] theorem evs_nil : evs C wr .nil g = .ok [] g := rfl
@[simp] theorem evs_cons (x : E) (r : Es) : evs C wr (.cons x r) g = (ev C wr x g).bind fun a g => (evs C wr r g).bind fun as g => .ok (a :: as) g := rfl
@[simp] theorem evAnd_one (x : E) : evAnd C wr (.cons x .nil) g = ev C wr x g := rfl
@[simp] theorem evAnd_cons (x y : E) (r : Es) : evAnd C wr (.cons x (.cons y r)) g = (ev C wr x g).bind fun a g => br (tst a g) (evAnd C wr (.cons y r) g) (.ok a g) := rfl
@[simp] theorem evOr_one (x : E) : evOr C wr (.cons x .nil) g = ev C wr x g := rfl
@[simp] theorem evOr_cons (x y : E) (r : Es) : evOr C wr (.cons x (.cons y r)) g = (ev C wr x g).bind fun a g => br (tst a g) (.ok a g) (evOr C wr (.cons y r) g) := rfl
@[simp] theorem evTs_nil : evTs C wr .nil g = .ok true g := rfl
@[simp] theorem evTs_cons (x : E) (r : Es) : evTs C wr (.cons x r) g = (ev C wr x g).bind fun a g => br (tst a g) (evTs C wr r g) (.ok false g) := rfl
@[simp] theorem evIt_seq (x : E) : evIt C wr (.seq x) g = (ev C wr x g).bind fun a g => finSeq a g := rfl
@[simp] theorem evIt_rng1 (x : E) : evIt C wr (.rng1 x) g = (ev C wr x g).bind fun a g => finR1 a g := rfl
@[simp] theorem evIt_rng2 (x y : E) : evIt C wr (.rng2 x y) g = (ev C wr x g).bind fun a g => (ev C wr y g).bind fun b g => finR2 a b g := rfl
@[simp] theorem evIt_rng3 (x y z : E) : evIt C wr (.rng3 x y z) g = (ev C wr x g).bind fun a g => (ev C wr y g).bind fun b g => (ev C wr z g).bind fun c g => finR3 a b c g := rfl
@[simp] theorem rng_r3 (x y z : E) : (It.rng3 x y z).isRng = true := rfl
@[simp] theorem evIt_zip (x y : E) : evIt C wr (.zip x y) g = (ev C wr x g).bind fun a g => (ev C wr y g).bind fun b g => finZip a b g := rfl
@[simp] theorem evIt_enum (x : E) : evIt C wr (.enum x) g = (ev C wr x g).bind fun a g => finEnum a g := rfl
@[simp] theorem rng_seq (x : E) : (It.seq x).isRng = false := rfl
@[simp] theorem rng_r1 (x : E) : (It.rng1 x).isRng = true := rfl
@[simp] theorem rng_r2 (x y : E) : (It.rng2 x y).isRng = true := rfl
@[simp] theorem rng_zip (x y : E) : (It.zip x y).isRng = false := rfl
@[simp] theorem rng_enum (x : E) : (It.enum x).isRng = false := rfl
@[simp] theorem ex_set (i : Nat) (x : E) : ex C wr (.set i x) g = (ev C wr x g).bind fun a g => finSet i a g := rfl
@[simp] theorem ex_unp (is : List Nat) (x : E) : ex C wr (.unp is x) g = (ev C wr x g).bind fun a g => finUnp is a g := rfl
@[simp] theorem ex_par (is : List Nat) (es : Es) : ex C wr (.par is es) g = (evs C wr es g).bind fun os g => finPar is os g := rfl
@[simp] theorem ex_sto (i : Nat) (y x : E) : ex C wr (.sto i y x) g = (ev C wr x g).bind fun a g => match mutL g i with
    | none => .bad
    | some _ => (ev C wr y g).bind fun b g => finSto i a b g := rfl
@[simp] theorem ex_ex (x : E) : ex C wr (.ex x) g = (ev C wr x g).bind fun _ g => .ok .next g := rfl
@[simp] theorem ex_ret (x : E) : ex C wr (.ret x) g = (ev C wr x g).bind fun a g => finRet a g := rfl
@[simp] theorem ex_retn : ex C wr .retn g = .ok (.ret .none false) g := rfl
@[simp] theorem ex_ife (c : E) (p q : Ss) : ex C wr (.ife c p q) g = (ev C wr c g).bind fun a g => br (tst a g) (exs C wr p g) (exs C wr q g) := rfl
@[simp] theorem ex_for (tg : Tg) (it : It) (p : Ss) : ex C wr (.for_ tg it p) g = (evIt C wr it g).bind fun w g => (forLoop tg (exs C wr p) w.1 (lockL g w.2)).unlock w.2 := rfl
@[simp] theorem ex_brk : ex C wr .brk g = .ok .brk g := rfl
@[simp] theorem ex_cont : ex C wr .cont g = .ok .cont g := rfl
@[simp] theorem ex_pass : ex C wr .pass g = .ok .next g := rfl
@[simp] theorem exs_nil : exs C wr .nil g = .ok .next g := rfl
@[simp] theorem exs_cons (s : S) (r : Ss) : exs C wr (.cons s r) g = (ex C wr s g).bind fun f g => after f g (exs C wr r g) := rfl
@[simp] theorem exs_tell (i : Nat) (c : Cr) (ts : List (List Tst)) (r : Ss) : exs C wr (.tell i c ts r) g = (crE C wr c g).bind fun d g => match put g i .un with
    | none => .bad
    | some g1 => (ttR C wr i ts (some d) g1).bind fun _ g => exs C wr r g := rfl
@[simp] theorem crE_disp (es : Es) : crE C wr (.disp es) g = (evs C wr es g).bind finDisp := rfl
@[simp] theorem crE_one (x : E) : crE C wr (.one x) g = (ev C wr x g).bind finOne := rfl
@[simp] theorem ttR_nil (i : Nat) (st : Option D) : ttR C wr i [] st g = .ok st g := rfl
@[simp] theorem ttR_cons (i : Nat) (ts : List Tst) (r : List (List Tst)) (st : Option D) : ttR C wr i (ts :: r) st g = (tstR C wr i ts st g).bind fun st g => ttR C wr i r st g := rfl
@[simp] theorem tstR_nil (i : Nat) (st : Option D) : tstR C wr i [] st g = .ok st g := rfl
@[simp] theorem tstR_pl (i : Nat) (x : E) (r : List Tst) (st : Option D) : tstR C wr i (.pl x :: r) st g = (ev C wr x g).bind fun a g => br (tst a g) .bad (tstR C wr i r st g) := rfl
@[simp] theorem after_next (r : Rs Fl) : after .next g r = r := rfl
@[simp] theorem after_brk (r : Rs Fl) : after .brk g r = .ok .brk g := rfl
@[simp] theorem after_cont (r : Rs Fl) : after .cont g r = .ok .cont g := rfl
@[simp] theorem after_ret (d : D) (own : Bool) (r : Rs Fl) : after (.ret d own) g r = .ok (.ret d own) g := rfl
@[simp] theorem turn_next (r : Rs Fl) : turn .next g r = r := rfl
@[simp] theorem turn_brk (r : Rs Fl) : turn .brk g r = .ok .next g := rfl
@[simp] theorem turn_cont (r : Rs Fl) : turn .cont g r = r := rfl
@[simp] theorem turn_ret (d : D) (own : Bool) (r : Rs Fl) : turn (.ret d own) g r = .ok (.ret d own) g := rfl
@[simp] theorem br_some (b : Bool) (p q : Rs α) : br (some b) p q = bif b then p else q := by cases b <;> rfl
@[simp] theorem res_val (d : D) (own : Bool) : (Op.val d own).res g = some d := rfl
@[simp] theorem res_slot (i : Nat) : (Op.slot i).res g = look g i := rfl
@[simp] theorem finRet_val (d : D) (own : Bool) : finRet (.val d own) g = .ok (.ret d own) g := rfl
@[simp] theorem unlock_nil (r : Rs α) : r.unlock [] = r := by cases r <;> rfl
@[simp] theorem lockL_nil : lockL g [] = g := rfl
@[simp] theorem unlockL_nil : unlockL g [] = g := rfl
@[simp] theorem get_sh (d : D) : (Slot.sh d).get = some d := rfl
@[simp] theorem get_ow (d : D) : (Slot.ow d).get = some d := rfl
@[simp] theorem get_lk (d : D) : (Slot.lk d).get = some d := rfl
@[simp] theorem get_io (d : D) : (Slot.io d).get = some d := rfl
@[simp] theorem get_un : Slot.un.get = none := rfl
@[simp] theorem tr_bool (b : Bool) : truth (.bool b) = some b := rfl
@[simp] theorem tr_int (i : Int) : truth (.int i) = some (i != 0) := rfl
@[simp] theorem tr_list (xs : List D) : truth (.list xs) = some (!xs.isEmpty) := rfl
@[simp] theorem tr_tup (xs : List D) : truth (.tuple xs) = some (!xs.isEmpty) := rfl
@[simp] theorem ioF (r : Gv) : ioOf false r = some none := rfl
@[simp] theorem ioT (d : D) (r : Gv) : ioOf true (.io d :: r) = some (some d) := rfl
@[simp] theorem forLoop_nil (tg : Tg) (b : Gv → Rs Fl) : forLoop tg b [] g = .ok .next g := rfl
@[simp] theorem forLoop_cons (tg : Tg) (b : Gv → Rs Fl) (d : D) (ds : List D) : forLoop tg b (d :: ds) g = match bindTg tg d g with
    | none => .bad
    | some g1 => (b g1).bind fun f g2 => turn f g2 (forLoop tg b ds g2) := rfl
end
/-- a call, by what the callee does -/
theorem callR_ok {C : Calls} {f : Nat} {w own : Bool} {os : List Op} {g as : Gv} {d : D} {io : Option D} (ha : argsOf g w os = some as) (hc : C f as = .ok d own io) (hi : ioFit w io = true) : callR C f w os g = .ok (.val d own) (wrote g os io) := by
  unfold callR
  rw [ha]
  simp only [hc, hi, if_pos]
/-- a comprehension that draws nothing: test p, item h -/
theorem lc_map {vs : List Nat} {tg : Tg} {ft : Gv → Rs Bool} {fx : Gv → Rs Op} {p : D → Bool} {h : D → D} {g0 : Gv} : ∀ (ds acc : List D),
    (∀ d, d ∈ ds → ∃ g1, bindTg tg d (wipeG g0 vs) = some g1 ∧ ft g1 = .ok (p d) g1 ∧ (p d = true → ∃ own, fx g1 = .ok (.val (h d) own) g1) ∧ wipeG g1 vs = wipeG g0 vs) → lcLoop vs tg ft fx ds acc (wipeG g0 vs) = .ok (acc ++ (ds.filter p).map h) (wipeG g0 vs)
  | [], acc, _ => by
    show Rs.ok acc (wipeG g0 vs) = _
    simp
  | d :: ds, acc, H => by
    obtain ⟨g1, e1, e2, e3, e4⟩ := H d List.mem_cons_self
    unfold lcLoop
    rw [wipeG_wipeG, e1]
    simp only [e2]
    cases q : p d with
    | false =>
      simp only [e4]
      rw [lc_map ds acc fun d hd => H d (List.mem_cons_of_mem _ hd), List.filter_cons, q]
      rfl
    | true =>
      obtain ⟨own, e5⟩ := e3 q
      simp only [e5, e4]
      rw [lc_map ds (acc ++ [h d]) fun d hd => H d (List.mem_cons_of_mem _ hd), List.filter_cons, q]
      simp
theorem lc_fin {vs : List Nat} {tg : Tg} {rng : Bool} {ft : Gv → Rs Bool} {fx : Gv → Rs Op} {p : D → Bool} {h : D → D} {g : Gv} {ds : List D} {ls : List Nat}
    (H : ∀ d, d ∈ ds → ∃ g1, bindTg tg d (wipeG (lockL g ls) vs) = some g1 ∧ ft g1 = .ok (p d) g1 ∧ (p d = true → ∃ own, fx g1 = .ok (.val (h d) own) g1) ∧ wipeG g1 vs = wipeG (lockL g ls) vs) (small : rng = true → ds.length ≤ sizeLine) :
    finLc vs tg rng ft fx (ds, ls) g = .ok (.val (.list ((ds.filter p).map h)) true) (unlockL (backG (lockL g ls) (wipeG (lockL g ls) vs) vs) ls) := by
  unfold finLc
  rw [if_neg (fun z => absurd z.2 (Nat.not_lt.mpr (small z.1)))]
  simp only [lc_map ds [] H, List.nil_append]
theorem asBools_map (f : D → Bool) : ∀ xs : List D, asBools (xs.map fun d => .bool (f d)) = some (xs.map f)
  | [] => rfl
  | x :: xs => by
    show (asBools (xs.map fun d => .bool (f d))).map (f x :: ·) = _
    rw [asBools_map f xs]
    rfl
theorem bi_allM (f : D → Bool) (xs : List D) : biD .all [.list (xs.map fun d => .bool (f d))] = some (.bool (xs.all f), false) := by
  show (asBools (xs.map fun d => .bool (f d))).map (fun bs => (PyData.bool (bs.all id), false)) = _
  rw [asBools_map]
  show some (PyData.bool ((xs.map f).all id), false) = _
  rw [List.all_map]
  rfl
theorem bi_anyM (f : D → Bool) (xs : List D) : biD .any [.list (xs.map fun d => .bool (f d))] = some (.bool (xs.any f), false) := by
  show (asBools (xs.map fun d => .bool (f d))).map (fun bs => (PyData.bool (bs.any id), false)) = _
  rw [asBools_map]
  show some (PyData.bool ((xs.map f).any id), false) = _
  rw [List.any_map]
  rfl
theorem filter_tt {xs : List D} : xs.filter (fun _ => true) = xs := by
  induction xs with
  | nil => rfl
  | cons x r ih => rw [List.filter_cons, if_pos rfl, ih]
end TL
/-! TL31: how the language's text computes at a frame that is written out (for simp). -/
namespace TL
open PySem
local instance : Plc := ⟨fun _ _ => False, fun _ _ => False⟩
section
variable {α : Type} {C : Calls} {s : Slot} {g : Gv}
@[simp] theorem look_0 : look (s :: g) 0 = s.get := rfl
@[simp] theorem look_s (i : Nat) : look (s :: g) (i + 1) = look g i := rfl
@[simp] theorem tst_v (d : D) (own : Bool) : tst (.val d own) g = truth d := rfl
@[simp] theorem tst_s (i : Nat) : tst (.slot i) (s :: g) = match look (s :: g) i with | none => none | some d => truth d := rfl
@[simp] theorem rdB_c (i : Nat) : rdB i (s :: g) = match look (s :: g) i with | some _ => .ok (.slot i) (s :: g) | none => .bad := rfl
@[simp] theorem rdV_c (i : Nat) : rdV i (s :: g) = match (s :: g)[i]? with
    | some (.sh d) => .ok (.val d false) (s :: g)
    | some (.ow d) => .ok (.val d false) ((s :: g).set i (.sh d))
    | _ => .bad := rfl
@[simp] theorem rdM_c (i : Nat) : rdM i (s :: g) = match (s :: g)[i]? with
    | some (.sh d) => .ok (.val d false) (s :: g)
    | some (.ow d) => .ok (.val d true) ((s :: g).set i .un)
    | _ => .bad := rfl
@[simp] theorem finBin_c (op : D → D → Option (D × Bool)) (a b : Op) : finBin op a b (s :: g) = match a.res (s :: g) with
    | none => .bad
    | some d => match b.res (s :: g) with
      | none => .bad
      | some e => match op d e with
        | none => .bad
        | some r => .ok (.val r.1 r.2) (s :: g) := rfl
@[simp] theorem finUn_c (op : D → Option (D × Bool)) (a : Op) : finUn op a (s :: g) = match a.res (s :: g) with
    | none => .bad
    | some d => match op d with
      | none => .bad
      | some r => .ok (.val r.1 r.2) (s :: g) := rfl
@[simp] theorem finBi_c (op : List D → Option (D × Bool)) (os : List Op) : finBi op os (s :: g) = match resAll (s :: g) os with
    | none => .bad
    | some ds => match op ds with
      | none => .bad
      | some r => .ok (.val r.1 r.2) (s :: g) := rfl
@[simp] theorem resAll_n : resAll g [] = some [] := rfl
@[simp] theorem resAll_c (o : Op) (r : List Op) : resAll (s :: g) (o :: r) = match o.res (s :: g) with
    | none => none
    | some d => match resAll (s :: g) r with
      | none => none
      | some ds => some (d :: ds) := rfl
@[simp] theorem vals_n : vals [] = some [] := rfl
@[simp] theorem vals_c (d : D) (own : Bool) (r : List Op) : vals (.val d own :: r) = match vals r with | none => none | some ds => some (d :: ds) := rfl
@[simp] theorem finTup_c (os : List Op) : finTup os (s :: g) = match vals os with
    | none => .bad
    | some ds => if ds.length ≤ sizeLine then .ok (.val (.tuple ds) false) (s :: g) else .bad := rfl
@[simp] theorem finLst_c (os : List Op) : finLst os (s :: g) = match vals os with
    | none => .bad
    | some ds => if ds.length ≤ sizeLine then .ok (.val (.list ds) true) (s :: g) else .bad := rfl
@[simp] theorem cmpB_c (o : CmpOp) (a b : Op) : cmpB o a b (s :: g) = match a.res (s :: g) with
    | none => none
    | some d => match b.res (s :: g) with
      | none => none
      | some e => cmpD o d e := rfl
@[simp] theorem mutL_c (i : Nat) : mutL (s :: g) i = match (s :: g)[i]? with
    | some (.ow (.list xs)) => some xs
    | some (.io (.list xs)) => some xs
    | _ => none := rfl
@[simp] theorem setL_c (i : Nat) (xs : List D) : setL (s :: g) i xs = match (s :: g)[i]? with
    | some (.ow _) => (s :: g).set i (.ow (.list xs))
    | some (.io _) => (s :: g).set i (.io (.list xs))
    | _ => (s :: g) := rfl
@[simp] theorem finApp_c (i : Nat) (d : D) (own : Bool) : finApp i (.val d own) (s :: g) = match mutL (s :: g) i with
    | none => .bad
    | some xs => if xs.length < sizeLine then .ok (.val .none false) (setL (s :: g) i (xs ++ [d])) else .bad := rfl
@[simp] theorem finPop_c (i : Nat) : finPop i (s :: g) = match mutL (s :: g) i with
    | none => .bad
    | some xs => match xs[xs.length - 1]? with
      | none => .bad
      | some d => .ok (.val d false) (setL (s :: g) i xs.dropLast) := rfl
@[simp] theorem finPopk_c (i : Nat) (a : Op) : finPopk i a (s :: g) = match a.res (s :: g) with
    | some (.int k) => match mutL (s :: g) i with
      | none => .bad
      | some xs => match L2.ixN xs.length k with
        | none => .bad
        | some j => match xs[j]? with
          | none => .bad
          | some d => .ok (.val d false) (setL (s :: g) i (xs.eraseIdx j))
    | _ => .bad := rfl
@[simp] theorem finSl_c (l h : Option Int) (a : Op) : finSl l h a (s :: g) = finUn (fun d => slD d l h) a (s :: g) := rfl
@[simp] theorem finPart_c (a : Op) : finPart a (s :: g) = match a.res (s :: g) with
    | some (.int i) => .ok (some i) (s :: g)
    | _ => .bad := rfl
@[simp] theorem put_c (i : Nat) (t : Slot) : put (s :: g) i t = match (s :: g)[i]? with
    | some (.lk _) => none
    | some (.io _) => none
    | some _ => some ((s :: g).set i t)
    | none => none := rfl
@[simp] theorem puts_n : puts g [] [] = some g := rfl
@[simp] theorem puts_c (i : Nat) (is : List Nat) (d : D) (ds : List D) : puts (s :: g) (i :: is) (d :: ds) = match put (s :: g) i (.sh d) with
    | some g' => puts g' is ds
    | none => none := rfl
@[simp] theorem bind_nm (i : Nat) (d : D) : bindTg (.nm i) d g = put g i (.sh d) := rfl
@[simp] theorem bind_tp (is : List Nat) (ds : List D) : bindTg (.tp is) (.tuple ds) g = puts g is ds := rfl
@[simp] theorem finSet_t (i : Nat) (d : D) : finSet i (.val d true) (s :: g) = match put (s :: g) i (.ow d) with | some g' => .ok .next g' | none => .bad := rfl
@[simp] theorem finSet_f (i : Nat) (d : D) : finSet i (.val d false) (s :: g) = match put (s :: g) i (.sh d) with | some g' => .ok .next g' | none => .bad := rfl
@[simp] theorem finUnp_c (is : List Nat) (a : Op) : finUnp is a (s :: g) = match a.res (s :: g) with
    | none => .bad
    | some d => match bindTg (.tp is) d (s :: g) with
      | some g' => .ok .next g'
      | none => .bad := rfl
@[simp] theorem finPar_c (is : List Nat) (os : List Op) : finPar is os (s :: g) = match vals os with
    | none => .bad
    | some ds => match puts (s :: g) is ds with
      | some g' => .ok .next g'
      | none => .bad := rfl
@[simp] theorem finSto_c (i : Nat) (d : D) (own : Bool) (b : Op) : finSto i (.val d own) b (s :: g) = match b.res (s :: g) with
    | some (.int k) => match mutL (s :: g) i with
      | none => .bad
      | some xs => match L2.ixN xs.length k with
        | some j => .ok .next (setL (s :: g) i (xs.set j d))
        | none => .bad
    | _ => .bad := rfl
/-! ### calls -/
@[simp] theorem argOf_v (d : D) (own : Bool) : argOf g false (.val d own) = some (.sh d) := rfl
@[simp] theorem argOf_w (d : D) : argOf g true (.val d true) = some (.io d) := rfl
@[simp] theorem argOf_s (i : Nat) : argOf (s :: g) false (.slot i) = match (s :: g)[i]? with
    | some (.sh d) => some (.sh d)
    | some (.ow d) => some (.lk d)
    | some (.lk d) => some (.lk d)
    | some (.io d) => some (.lk d)
    | _ => none := rfl
@[simp] theorem argOf_t (i : Nat) : argOf (s :: g) true (.slot i) = match (s :: g)[i]? with
    | some (.ow d) => some (.io d)
    | some (.io d) => some (.io d)
    | _ => none := rfl
@[simp] theorem argL_n (w : Bool) : argL g w [] = some [] := rfl
@[simp] theorem argL_c (w : Bool) (o : Op) (r : List Op) : argL (s :: g) w (o :: r) = match argOf (s :: g) w o with
    | none => none
    | some a => match argL (s :: g) false r with
      | none => none
      | some as => some (a :: as) := rfl
@[simp] theorem argsOf_f (os : List Op) : argsOf (s :: g) false os = argL (s :: g) false os := by
  unfold argsOf
  rfl
@[simp] theorem argsOf_t (o : Op) (r : List Op) : argsOf (s :: g) true (o :: r) = if clash (o :: r) = true then none else argL (s :: g) true (o :: r) := by
  unfold argsOf
  simp
@[simp] theorem clash_v (d : D) (own : Bool) (r : List Op) : clash (.val d own :: r) = false := rfl
@[simp] theorem clash_s (i : Nat) (r : List Op) : clash (.slot i :: r) = r.any (isSlot i) := rfl
@[simp] theorem isSlot_v (i : Nat) (d : D) (own : Bool) : isSlot i (.val d own) = false := rfl
@[simp] theorem isSlot_s (i j : Nat) : isSlot i (.slot j) = (i == j) := rfl
@[simp] theorem callR_c (f : Nat) (w : Bool) (os : List Op) : callR C f w os (s :: g) = match argsOf (s :: g) w os with
    | none => .bad
    | some as => match C f as with
      | .bad => .bad
      | .ex c fs io => if ioFit w io = true then .ex c fs (wrote (s :: g) os io) else .bad
      | .ok d own io => if ioFit w io = true then .ok (.val d own) (wrote (s :: g) os io) else .bad := rfl
@[simp] theorem ioFit_f : ioFit false none = true := rfl
@[simp] theorem ioFit_t (d : D) : ioFit true (some d) = true := rfl
@[simp] theorem wrote_n (os : List Op) : wrote g os none = g := by cases os with
  | nil => rfl
  | cons o r => cases o <;> rfl
@[simp] theorem wrote_v (d e : D) (own : Bool) (r : List Op) : wrote g (.val d own :: r) (some e) = g := rfl
@[simp] theorem wrote_s (i : Nat) (r : List Op) (e : D) : wrote (s :: g) (.slot i :: r) (some e) = match (s :: g)[i]? with
    | some (.ow _) => (s :: g).set i (.ow e)
    | some (.io _) => (s :: g).set i (.io e)
    | _ => (s :: g) := rfl
/-! ### walks -/
@[simp] theorem walkOk_v (d : D) (own : Bool) : walkOk g (.val d own) = true := rfl
@[simp] theorem walkOk_s (i : Nat) : walkOk (s :: g) (.slot i) = match (s :: g)[i]? with | some (.io _) => false | _ => true := rfl
@[simp] theorem locks_v (d : D) (own : Bool) : locks g (.val d own) = [] := rfl
@[simp] theorem locks_s (i : Nat) : locks (s :: g) (.slot i) = match (s :: g)[i]? with | some (.ow _) => [i] | _ => [] := rfl
@[simp] theorem lockL_c (i : Nat) (is : List Nat) : lockL (s :: g) (i :: is) = lockL (lock (s :: g) i) is := rfl
@[simp] theorem lock_c (i : Nat) : lock (s :: g) i = match (s :: g)[i]? with | some (.ow d) => (s :: g).set i (.lk d) | _ => s :: g := rfl
@[simp] theorem unlockL_1 (i : Nat) : unlockL (s :: g) [i] = unlock (s :: g) i := rfl
@[simp] theorem unlock_c (i : Nat) : unlock (s :: g) i = match (s :: g)[i]? with | some (.lk d) => (s :: g).set i (.ow d) | _ => s :: g := rfl
@[simp] theorem unl_ok (a : α) (l : List Nat) : (Rs.ok a g).unlock l = .ok a (unlockL g l) := rfl
@[simp] theorem unl_bad (l : List Nat) : (Rs.bad : Rs α).unlock l = .bad := rfl
@[simp] theorem finSeq_c (a : Op) : finSeq a (s :: g) = match walkOk (s :: g) a, a.res (s :: g) with
    | true, some d => match items d with
      | some ds => .ok (ds, locks (s :: g) a) (s :: g)
      | none => .bad
    | _, _ => .bad := rfl
@[simp] theorem items_l (xs : List D) : items (.list xs) = some xs := rfl
@[simp] theorem items_t (xs : List D) : items (.tuple xs) = some xs := rfl
@[simp] theorem finR1_c (a : Op) : finR1 a (s :: g) = match a.res (s :: g) with
    | some (.int n) => if rngOk n = true then .ok (rngL 0 n.toNat, []) (s :: g) else .bad
    | _ => .bad := rfl
@[simp] theorem finR2_c (a b : Op) : finR2 a b (s :: g) = match a.res (s :: g), b.res (s :: g) with
    | some (.int i), some (.int j) => if (rngOk i && rngOk j) = true then .ok (rngL i (j - i).toNat, []) (s :: g) else .bad
    | _, _ => .bad := rfl
@[simp] theorem finR3_c (a b c : Op) : finR3 a b c (s :: g) = match a.res (s :: g), b.res (s :: g), c.res (s :: g) with
    | some (.int i), some (.int j), some (.int k) => if (rngOk i && rngOk j && decide (k = -1)) = true then .ok (dwnL i (i - j).toNat, []) (s :: g) else .bad
    | _, _, _ => .bad := rfl
@[simp] theorem wipe_n : wipeG g [] = g := rfl
@[simp] theorem wipe_c (i : Nat) (is : List Nat) : wipeG g (i :: is) = (wipeG g is).set i .un := rfl
@[simp] theorem back_n (g0 : Gv) : backG g0 g [] = g := rfl
@[simp] theorem back_c (g0 : Gv) (i : Nat) (is : List Nat) : backG g0 g (i :: is) = (backG g0 g is).set i ((g0[i]?).getD .un) := rfl
/-! ### operations -/
@[simp] theorem tyd_n : tyd .none = true := rfl
@[simp] theorem tyd_b (b : Bool) : tyd (.bool b) = true := rfl
@[simp] theorem tyd_i (b : Int) : tyd (.int b) = true := rfl
@[simp] theorem tyd_s (b : Str) : tyd (.str b) = true := rfl
@[simp] theorem tyd_l (b : List D) : tyd (.list b) = true := rfl
@[simp] theorem tyd_t (b : List D) : tyd (.tuple b) = true := rfl
@[simp] theorem tyd_d (b : List (D × D)) : tyd (.dict b) = okK b := rfl
@[simp] theorem okK_n : okK [] = true := rfl
@[simp] theorem okK_i (i : Int) (d : D) (r : List (D × D)) : okK ((.int i, d) :: r) = true := rfl
@[simp] theorem okK_s (i : Str) (d : D) (r : List (D × D)) : okK ((.str i, d) :: r) = true := rfl
@[simp] theorem tyO_e (t : Ty) (d : D) : tyO t d = if tyd d = true then some (.bool (isTy t d), false) else none := rfl
@[simp] theorem asEx_n : asEx .none = none := rfl
@[simp] theorem asEx_i (i : Int) : asEx (.int i) = none := rfl
@[simp] theorem asEx_b (i : Bool) : asEx (.bool i) = none := rfl
@[simp] theorem asEx_s (i : Str) : asEx (.str i) = none := rfl
@[simp] theorem asEx_l (i : List D) : asEx (.list i) = none := rfl
@[simp] theorem asEx_t (i : List D) : asEx (.tuple i) = none := rfl
@[simp] theorem asEx_e (c : Nat) (fs : List D) : asEx (exD c fs) = some (c, fs) := rfl
@[simp] theorem asFn_e (i : Nat) : asFn (fnD i) = some i := rfl
@[simp] theorem isCO_e (cs : List Nat) (c : Nat) (fs : List D) : isCO cs (exD c fs) = some (.bool (cs.contains c), false) := rfl
@[simp] theorem isCO_n (cs : List Nat) : isCO cs .none = some (.bool false, false) := rfl
@[simp] theorem isVO_e (c : Nat) (fs : List D) : isVO (exD c fs) = some (.bool true, false) := rfl
@[simp] theorem isVO_n : isVO .none = some (.bool false, false) := rfl
@[simp] theorem fldO_e (c : Nat) (d : D) : fldO 0 (exD c [d]) = some (d, false) := rfl
@[simp] theorem isD_ex (c : Nat) (fs : List D) : isD (exD c fs) .non = false := rfl
@[simp] theorem caught_c (c : Nat) (fs : List D) (e i : Nat) : caught c fs e i (s :: g) = if (e != i && freeS (s :: g)[e]?) = true then
    match put (s :: g) i (.sh (exD c fs)) with
    | none => .bad
    | some g1 => .ok .next (g1.set e .un)
  else .bad := rfl
@[simp] theorem freeS_u : freeS (some .un) = true := rfl
@[simp] theorem freeS_s (d : D) : freeS (some (.sh d)) = true := rfl
@[simp] theorem resFn_s (i : Nat) : resFn (.slot i) (s :: g) = match look (s :: g) i with | none => none | some d => asFn d := rfl
@[simp] theorem isDk_v (xs : List (D × D)) (own : Bool) : isDk (.val (.dict xs) own) g = okK xs := rfl
@[simp] theorem isDk_s (i : Nat) : isDk (.slot i) (s :: g) = match look (s :: g) i with | some (.dict xs) => okK xs | _ => false := rfl
@[simp] theorem isO_e (t : Sing) (n : Bool) (d : D) : isO t n d = some (.bool (isD d t != n), false) := rfl
@[simp] theorem notO_e (d : D) : notO d = (truth d).map fun b => (.bool (!b), false) := rfl
@[simp] theorem negO_i (i : Int) : negO (.int i) = some (.int (-i), false) := rfl
@[simp] theorem cmpO_e (o : CmpOp) (d e : D) : cmpO o d e = (cmpD o d e).map fun b => (.bool b, false) := rfl
@[simp] theorem idxO_e (d e : D) : idxO d e = (idxD d e).map fun r => (r, false) := rfl
@[simp] theorem c_lt (i j : Int) : cmpD .Lt (.int i) (.int j) = some (decide (i < j)) := rfl
@[simp] theorem c_le (i j : Int) : cmpD .LtE (.int i) (.int j) = some (decide (i ≤ j)) := rfl
@[simp] theorem c_gt (i j : Int) : cmpD .Gt (.int i) (.int j) = some (decide (j < i)) := rfl
@[simp] theorem c_ge (i j : Int) : cmpD .GtE (.int i) (.int j) = some (decide (j ≤ i)) := rfl
@[simp] theorem c_eqI (i j : Int) : cmpD .Eq (.int i) (.int j) = some (decide (i = j)) := by
  have e : cmpD .Eq (.int i) (.int j) = some (PyData.eqv (.int i) (.int j)) := rfl
  rw [e]
  congr 1
@[simp] theorem c_neI (i j : Int) : cmpD .NotEq (.int i) (.int j) = some (!decide (i = j)) := by
  have e : cmpD .NotEq (.int i) (.int j) = some (!PyData.eqv (.int i) (.int j)) := rfl
  rw [e]
  congr 1
@[simp] theorem c_eqS (x y : Str) : cmpD .Eq (.str x) (.str y) = some (decide (x = y)) := rfl
@[simp] theorem c_neS (x y : Str) : cmpD .NotEq (.str x) (.str y) = some (!decide (x = y)) := rfl
@[simp] theorem ok_int (i : Int) : eqOk (.int i) = true := rfl
@[simp] theorem ok_bool (i : Bool) : eqOk (.bool i) = true := rfl
@[simp] theorem ok_none : eqOk .none = true := rfl
@[simp] theorem b_add (i j : Int) : binD .Add (.int i) (.int j) = some (.int (i + j), false) := rfl
@[simp] theorem b_sub (i j : Int) : binD .Sub (.int i) (.int j) = some (.int (i - j), false) := rfl
@[simp] theorem b_mul (i j : Int) : binD .Mult (.int i) (.int j) = if mulOk i j = true then some (.int (i * j), false) else none := rfl
@[simp] theorem b_div (i j : Int) : binD .FloorDiv (.int i) (.int j) = if divOk j = true then some (.int (i.fdiv j), false) else none := rfl
@[simp] theorem b_mod (i j : Int) : binD .Mod (.int i) (.int j) = if (j != 0) = true then some (.int (i.fmod j), false) else none := by unfold binD; rfl
@[simp] theorem b_pow (i j : Int) : binD .Pow (.int i) (.int j) = if powOk i j = true then some (.int (i ^ j.toNat), false) else none := rfl
@[simp] theorem b_cat (i j : List D) : binD .Add (.list i) (.list j) = if i.length + j.length ≤ sizeLine then some (.list (i ++ j), true) else none := rfl
@[simp] theorem b_catT (i j : List D) : binD .Add (.tuple i) (.tuple j) = if i.length + j.length ≤ sizeLine then some (.tuple (i ++ j), false) else none := rfl
@[simp] theorem b_rep (i : List D) (j : Int) : binD .Mult (.list i) (.int j) = if repOk j i.length = true then some (.list (rep j i), true) else none := rfl
@[simp] theorem bi_lenL (xs : List D) : biD .len [.list xs] = some (.int xs.length, false) := rfl
@[simp] theorem bi_lenT (xs : List D) : biD .len [.tuple xs] = some (.int xs.length, false) := rfl
@[simp] theorem bi_intI (i : Int) : biD .int [.int i] = some (.int i, false) := rfl
@[simp] theorem bi_absI (i : Int) : biD .abs [.int i] = some (.int (if i < 0 then -i else i), false) := rfl
@[simp] theorem bi_max2 (i j : Int) : biD .max [.int i, .int j] = some (.int (if j > i then j else i), false) := rfl
@[simp] theorem bi_min2 (i j : Int) : biD .min [.int i, .int j] = some (.int (if j < i then j else i), false) := rfl
@[simp] theorem bi_listT (xs : List D) : biD .list [.tuple xs] = some (.list xs, true) := rfl
@[simp] theorem bi_listL (xs : List D) : biD .list [.list xs] = some (.list xs, true) := rfl
@[simp] theorem bi_tupT (xs : List D) : biD .tuple [.tuple xs] = some (.tuple xs, false) := rfl
@[simp] theorem bi_tupL (xs : List D) : biD .tuple [.list xs] = some (.tuple xs, false) := rfl
@[simp] theorem bi_reprD (d : D) : biD .repr [d] = if reprOk d = true then some (.str d.shown, false) else none := by
  cases d <;> rfl
@[simp] theorem sl_l (xs : List D) (l h : Option Int) : slD (.list xs) l h = some (.list (cut xs l h), true) := rfl
@[simp] theorem sl_t (xs : List D) (l h : Option Int) : slD (.tuple xs) l h = some (.tuple (cut xs l h), false) := rfl
@[simp] theorem ix_l (xs : List D) (i : Int) : idxD (.list xs) (.int i) = L2.atI xs i := rfl
@[simp] theorem ix_t (xs : List D) (i : Int) : idxD (.tuple xs) (.int i) = L2.atI xs i := rfl
@[simp] theorem me_bits (i : Int) : meD .bitlen (.int i) = some (.int (Builtin.Int.intBits i : Nat), false) := rfl
@[simp] theorem at_0 (x : D) (xs : List D) : L2.atI (x :: xs) 0 = some x := L2.atI_nat (j := 0) rfl
@[simp] theorem at_1 (x y : D) (xs : List D) : L2.atI (x :: y :: xs) 1 = some y := L2.atI_nat (j := 1) rfl
@[simp] theorem at_2 (x y z : D) (xs : List D) : L2.atI (x :: y :: z :: xs) 2 = some z := L2.atI_nat (j := 2) rfl
end
end TL
/-! TL32: the four defs that every law begins with. -/
namespace TL
open PySem
local instance : Plc := ⟨fun _ _ => False, fun _ _ => False⟩
def fHash : Fn := { name := "_law_hash", N := ["seed", "index", "mixed"], np := 2, w := false, kw := [], body := (.cons (.set 2 (.bin .Mod (.bi .int (.cons (.bin .Add (.bin .Add (.bin .Add (.bin .Mult (.b 0) (.k (.int 1140671))) (.bin .Mult (.bin .Mult (.k (.int 27644437)) (.b 1)) (.b 1))) (.bin .Mult (.k (.int 131)) (.b 1))) (.k (.int 19))) .nil)) (.k (.int 2147483629)))) (.cons (.set 2 (.bin .Mod (.bi .int (.cons (.bin .Add (.bin .Add (.bin .Mult (.b 2) (.b 2)) (.bin .Mult (.k (.int 62089)) (.b 1))) (.k (.int 32416187))) .nil)) (.k (.int 2147483587)))) (.cons (.ret (.bin .Mod (.bi .int (.cons (.bin .Mult (.b 2) (.k (.int 48271))) .nil)) (.k (.int 2147483647)))) .nil))) }
def fCell : Fn := { name := "_law_cell", N := ["script", "index"], np := 2, w := false, kw := [], body := (.cons (.ife (.cmp .Lt (.b 1) (.bi .len (.cons (.b 0) .nil))) (.cons (.ret (.idx (.b 0) (.b 1))) .nil) .nil) (.cons (.ret (.bin .Mod (.bi .sum (.cons (.sl (.b 0) .no (.so (.k (.int 1)))) .nil)) (.k (.int 1000003)))) .nil)) }
def fGen (c : Nat) : Fn := { name := "_law_generator", N := ["script", "index", "seed"], np := 2, w := false, kw := [], body := (.cons (.set 2 (.call c (.cons (.b 0) (.cons (.b 1) .nil)))) (.cons (.ret (.lst (.cons (.bin .Mod (.bi .int (.cons (.bi .max (.cons (.bin .Sub (.b 2) (.bin .Pow (.k (.int 10)) (.k (.int 18)))) (.cons (.k (.int 0)) .nil))) .nil)) (.bin .Pow (.bin .Pow (.k (.int 10)) (.k (.int 60))) (.k (.int 10)))) (.cons (.bin .Mod (.bi .int (.cons (.b 2) .nil)) (.k (.int 2147483647))) (.cons (.bin .Mult (.k (.int 1000)) (.b 1)) .nil))))) .nil)) }
def fRand (h : Nat) : Fn := { name := "_law_random", N := ["generator", "bound", "drawn", "turn"], np := 2, w := true, kw := [], body := (.cons (.ife (.cmp .Gt (.idx (.b 0) (.k (.int 0))) (.k (.int 0))) (.cons (.set 2 (.bin .Mod (.bi .int (.cons (.idx (.b 0) (.k (.int 0))) .nil)) (.b 1))) (.cons (.sto 0 (.k (.int 0)) (.bin .FloorDiv (.idx (.b 0) (.k (.int 0))) (.b 1))) (.cons (.ret (.mv 2)) .nil))) .nil) (.cons (.set 2 (.k (.int 0))) (.cons (.for_ (.nm 3) (.rng1 (.bin .Add (.k (.int 1)) (.bin .FloorDiv (.me .bitlen (.b 1)) (.k (.int 30))))) (.cons (.sto 0 (.k (.int 2)) (.bin .Add (.idx (.b 0) (.k (.int 2))) (.k (.int 1)))) (.cons (.set 2 (.bin .Add (.bin .Mult (.b 2) (.k (.int 2147483587))) (.call h (.cons (.idx (.b 0) (.k (.int 1))) (.cons (.idx (.b 0) (.k (.int 2))) .nil))))) .nil))) (.cons (.ret (.bin .Mod (.bi .int (.cons (.b 2) .nil)) (.b 1))) .nil)))) }

theorem log2_lt {n k : Nat} (hk : 0 < k) (h : n < 2 ^ k) : n.log2 < k := by
  by_cases z : n = 0
  · subst z; simpa using hk
  · exact (Nat.log2_lt z).mpr h
theorem mulOk_of {i j : Int} (hi : i.natAbs < 2 ^ 100000) (hj : j.natAbs < 2 ^ 100000) : mulOk i j = true := by
  unfold mulOk
  have a := log2_lt (by decide) hi
  have b := log2_lt (by decide) hj
  exact decide_eq_true (by omega)
theorem big30 {i : Int} (h1 : -(10 ^ 30) < i) (h2 : i < 10 ^ 30) : i.natAbs < 2 ^ 100000 := by
  have a : i.natAbs < 10 ^ 30 := by omega
  refine Nat.lt_of_lt_of_le a ?_
  have b : (10 : Nat) ^ 30 ≤ 2 ^ 100 := by decide
  exact Nat.le_trans b (Nat.pow_le_pow_right (by decide) (by decide))
theorem mul30 {i j : Int} (h1 : -(10 ^ 30) < i) (h2 : i < 10 ^ 30) (h3 : -(10 ^ 30) < j) (h4 : j < 10 ^ 30) : mulOk i j = true := mulOk_of (big30 h1 h2) (big30 h3 h4)
theorem fm {a b : Int} (h : 0 < b) : 0 ≤ a.fmod b ∧ a.fmod b < b := ⟨Int.fmod_nonneg_of_pos a h, Int.fmod_lt_of_pos a h⟩

/-- the generator of drawn numbers, after at most so many turns -/
def Gen (K : Nat) (d : D) : Prop := ∃ a b c : Int, d = .list [.int a, .int b, .int c] ∧ 0 ≤ a ∧ 0 ≤ b ∧ b < 2147483647 ∧ 0 ≤ c ∧ c ≤ K
theorem Gen.mono {J K : Nat} {d : D} (g : Gen J d) (h : J ≤ K) : Gen K d := by
  obtain ⟨a, b, c, e, h1, h2, h3, h4, h5⟩ := g
  exact ⟨a, b, c, e, h1, h2, h3, h4, by omega⟩
section
variable {G : List Fn} {n : Nat}
def hash1 (s x : Int) : Int := (s * 1140671 + 27644437 * x * x + 131 * x + 19).fmod 2147483629
def hash2 (y x : Int) : Int := (y * y + 62089 * x + 32416187).fmod 2147483587
def hashV (s x : Int) : Int := (hash2 (hash1 s x) x * 48271).fmod 2147483647
theorem hash_ok {i : Nat} (hG : G[i]? = some fHash) {s x : Int} (s0 : 0 ≤ s) (s1 : s < 2147483647) (x0 : 0 ≤ x) (x1 : x ≤ 10 ^ 12) : TL.run G (n + 1) i [.sh (.int s), .sh (.int x)] = .ok (.int (hashV s x)) false none := by
  rw [TL.run_at hG]
  have m1 : mulOk s 1140671 = true := mul30 (by omega) (by omega) (by omega) (by omega)
  have m2 : mulOk 27644437 x = true := mul30 (by omega) (by omega) (by omega) (by omega)
  have m3 : mulOk (27644437 * x) x = true := mul30 (by omega) (by omega) (by omega) (by omega)
  have m4 : mulOk 131 x = true := mul30 (by omega) (by omega) (by omega) (by omega)
  have m5 : mulOk 62089 x = true := mul30 (by omega) (by omega) (by omega) (by omega)
  have y2 : 0 ≤ hash1 s x ∧ hash1 s x < 2147483629 := fm (by decide)
  have m6 : mulOk (hash1 s x) (hash1 s x) = true := mul30 (by omega) (by omega) (by omega) (by omega)
  have z2 : 0 ≤ hash2 (hash1 s x) x ∧ hash2 (hash1 s x) x < 2147483587 := fm (by decide)
  have m7 : mulOk (hash2 (hash1 s x) x) 48271 = true := mul30 (by omega) (by omega) (by omega) (by omega)
  have e1 : (s * 1140671 + 27644437 * x * x + 131 * x + 19).fmod 2147483629 = hash1 s x := rfl
  have e2 : (hash1 s x * hash1 s x + 62089 * x + 32416187).fmod 2147483587 = hash2 (hash1 s x) x := rfl
  have e3 : (hash2 (hash1 s x) x * 48271).fmod 2147483647 = hashV s x := rfl
  generalize TL.run G n = C
  simp [fHash, runFn, shapeOk, Slot.rd, m1, m2, m3, m4, m5, e1, m6, e2, m7, e3]
theorem hash_b (s x : Int) : 0 ≤ hashV s x ∧ hashV s x < 2147483647 := fm (by decide)
theorem sum_cut (ns : List Int) : ∃ k : Int, biD .sum [.list (cut (ns.map PyData.int) none (some 1))] = some (.int k, false) := by
  unfold cut
  rw [HT.sIx_none]
  cases ns with
  | nil => exact ⟨0, rfl⟩
  | cons x r =>
    refine ⟨x, ?_⟩
    rw [show HT.sIx ((x :: r).map PyData.int).length ((x :: r).map PyData.int).length (some 1) = min 1 ((x :: r).map PyData.int).length from HT.sIx_nat _ _ 1]
    rw [show min 1 ((x :: r).map PyData.int).length = 1 by simp]
    have e : (List.take (1 - 0) (List.drop 0 ((x :: r).map PyData.int))) = [PyData.int x] := by simp
    have e0 : HT.sIx ((x :: r).map PyData.int).length 0 none = 0 := HT.sIx_none _ _
    rw [e]
    show some (PyData.int ([x] : List Int).sum, false) = _
    simp
theorem cell_ok {i : Nat} (hG : G[i]? = some fCell) {ns : List Int} {k : Nat} : ∃ v : Int, TL.run G (n + 1) i [.sh (scriptD ns), .sh (.int k)] = .ok (.int v) false none := by
  rw [TL.run_at hG]
  generalize TL.run G n = C
  obtain ⟨t, ht⟩ := sum_cut ns
  by_cases h : k < ns.length
  · have e : L2.atI (ns.map PyData.int) (k : Int) = some (.int ns[k]) := L2.atI_nat (by rw [List.getElem?_map, List.getElem?_eq_getElem h]; rfl)
    refine ⟨ns[k], ?_⟩
    simp [fCell, runFn, shapeOk, Slot.rd, scriptD, h, e]
  · refine ⟨t.fmod 1000003, ?_⟩
    simp [fCell, runFn, shapeOk, Slot.rd, scriptD, h, ht]
theorem gen_ok {i c : Nat} (hG : G[i]? = some (fGen c)) (hC : G[c]? = some fCell) {ns : List Int} {k : Nat} (hk : k ≤ 1000) : ∃ d, TL.run G (n + 2) i [.sh (scriptD ns), .sh (.int k)] = .ok d true none ∧ Gen 1000000 d := by
  rw [TL.run_at hG]
  obtain ⟨v, hv⟩ := cell_ok (n := n) hC (ns := ns) (k := k)
  have w0 : wrOf G c = false := by unfold wrOf; rw [hC]; rfl
  generalize TL.run G (n + 1) = C at hv ⊢
  have p1 : powOk 10 18 = true := by decide +kernel
  have p2 : powOk 10 60 = true := by decide +kernel
  have p3 : powOk 1000000000000000000000000000000000000000000000000000000000000 10 = true := by decide +kernel
  have z3 : 3 ≤ sizeLine := by decide
  have m1 : mulOk 1000 (k : Int) = true := mul30 (by omega) (by omega) (by omega) (by omega)
  refine ⟨.list [.int ((if 0 > v - 10 ^ 18 then 0 else v - 10 ^ 18).fmod ((10 ^ 60) ^ 10)), .int (v.fmod 2147483647), .int (1000 * k)], ?_, _, _, _, rfl, (fm (by decide)).1, (fm (by decide)).1, (fm (by decide)).2, by omega, by omega⟩
  simp [fGen, runFn, shapeOk, Slot.rd, hv, w0, p1, p2, p3, m1, z3]
/-- a place that may be assigned -/
def Slot.free : Slot → Bool
  | .un => true
  | .sh _ => true
  | _ => false
theorem free_cases {t : Slot} (h : t.free = true) : t = .un ∨ ∃ d, t = .sh d := by
  cases t <;> first | exact .inl rfl | exact .inr ⟨_, rfl⟩ | cases h
theorem pow_step {N x y k : Nat} (hy : y < 2147483647) (h : (x + 1) * 2 ^ (40 * (k + 1)) ≤ N) : (x * 2147483587 + y + 1) * 2 ^ (40 * k) ≤ N := by
  have e : 2 ^ (40 * (k + 1)) = 2 ^ 40 * 2 ^ (40 * k) := by rw [← Nat.pow_add]; congr 1; omega
  rw [e, ← Nat.mul_assoc] at h
  refine Nat.le_trans (Nat.mul_le_mul_right _ ?_) h
  omega
theorem rloop {N : Nat} (hm : ∀ x : Nat, x ≤ N → mulOk (x : Int) 2147483587 = true) {C : Calls} {wr : Nat → Bool} {h : Nat} {a b m : Int} (hw : wr h = false) (b0 : 0 ≤ b) (b1 : b < 2147483647) (hC : ∀ x : Int, 0 ≤ x → x ≤ 10 ^ 12 → C h [.sh (.int b), .sh (.int x)] = .ok (.int (hashV b x)) false none) :
    ∀ (ds : List D) (x : Nat) (c : Int) (t : Slot), t.free = true → 0 ≤ c → c + ds.length ≤ 10 ^ 12 → (x + 1) * 2 ^ (40 * ds.length) ≤ N →
      ∃ (x' : Nat) (c' : Int) (t' : Slot), forLoop (.nm 3) (exs C wr (.cons (.sto 0 (.k (.int 2)) (.bin .Add (.idx (.b 0) (.k (.int 2))) (.k (.int 1)))) (.cons (.set 2 (.bin .Add (.bin .Mult (.b 2) (.k (.int 2147483587))) (.call h (.cons (.idx (.b 0) (.k (.int 1))) (.cons (.idx (.b 0) (.k (.int 2))) .nil))))) .nil))) ds
        [.io (.list [.int a, .int b, .int c]), .sh (.int m), .sh (.int x), t] = .ok .next [.io (.list [.int a, .int b, .int c']), .sh (.int m), .sh (.int x'), t'] ∧ c ≤ c' ∧ c' ≤ c + ds.length := by
  intro ds
  induction ds with
  | nil => exact fun x c t ht hc hl hx => ⟨x, c, t, rfl, Int.le_refl _, by simp⟩
  | cons d ds ih =>
    intro x c t ht hc hl hx
    have l : ((d :: ds).length : Int) = ds.length + 1 := by simp
    have hh := hC (c + 1) (by omega) (by omega)
    have hb := hash_b b (c + 1)
    obtain ⟨y, hy⟩ := Int.eq_ofNat_of_zero_le hb.1
    have xs : x + 1 ≤ N := Nat.le_trans (Nat.le_mul_of_pos_right _ (Nat.pow_pos (by decide))) hx
    have m1 : mulOk (x : Int) 2147483587 = true := hm x (Nat.le_of_succ_le xs)
    have i2 : L2.ixN 3 2 = some 2 := by decide
    obtain ⟨x', c', t', e, e1, e2⟩ := ih (x * 2147483587 + y) (c + 1) (.sh d) rfl (by omega) (by omega) (pow_step (by omega) hx)
    refine ⟨x', c', t', ?_, by omega, by omega⟩
    rw [hy] at hh
    rw [← e]
    rcases free_cases ht with rfl | ⟨d0, rfl⟩ <;> simp [m1, i2, hw, hh]
theorem bits_lt {m : Int} (h1 : m.natAbs < 2 ^ 300) : Builtin.Int.intBits m ≤ 300 := by
  unfold Builtin.Int.intBits
  split
  · exact Nat.zero_le _
  · exact log2_lt (by decide) h1
theorem mul1000 (x : Nat) (h : x ≤ 2 ^ 1000) : mulOk (x : Int) 2147483587 = true := by
  refine mulOk_of ?_ (big30 (by omega) (by omega))
  rw [Int.natAbs_natCast]
  exact Nat.lt_of_le_of_lt h (Nat.pow_lt_pow_right (by decide) (by decide))
theorem rand_ok {i h : Nat} (hG : G[i]? = some (fRand h)) (hH : G[h]? = some fHash) {d : D} {K : Nat} {m : Int} (g : Gen K d) (hK : K ≤ 10 ^ 11) (m0 : 1 ≤ m) (m1 : m.natAbs < 2 ^ 300) :
    ∃ (z : Int) (d' : D), TL.run G (n + 2) i [.io d, .sh (.int m)] = .ok (.int z) false (some d') ∧ 0 ≤ z ∧ z < m ∧ Gen (K + 20) d' := by
  obtain ⟨a, b, c, rfl, a0, b0, b1, c0, c1⟩ := g
  have hC : ∀ x : Int, 0 ≤ x → x ≤ 10 ^ 12 → TL.run G (n + 1) h [.sh (.int b), .sh (.int x)] = .ok (.int (hashV b x)) false none := fun x h0 h1 => hash_ok hH b0 b1 h0 h1
  rw [TL.run_at hG]
  have wh : wrOf G h = false := by unfold wrOf; rw [hH]; rfl
  generalize TL.run G (n + 1) = C at hC ⊢
  have mz : m ≠ 0 := by omega
  have dv : divOk m = true := by
    unfold divOk
    have q := log2_lt (by decide : 0 < 300) m1
    simp [mz]
    omega
  have i0 : L2.ixN 3 0 = some 0 := by decide
  have f := fm (a := a) (b := m) (by omega)
  by_cases ha : 0 < a
  · refine ⟨a.fmod m, .list [.int (a.fdiv m), .int b, .int c], ?_, f.1, f.2, _, _, _, rfl, Int.fdiv_nonneg a0 (by omega), b0, b1, c0, by omega⟩
    simp [fRand, runFn, shapeOk, Slot.rd, ha, mz, dv, i0]
  · have hb := bits_lt m1
    have d30 : divOk 30 = true := by decide +kernel
    have e30 : (Builtin.Int.intBits m : Int).fdiv 30 = ((Builtin.Int.intBits m / 30 : Nat) : Int) := by
      rw [Int.fdiv_eq_ediv_of_nonneg _ (by decide)]
      rfl
    generalize hq : Builtin.Int.intBits m / 30 = q at e30
    have q10 : q ≤ 10 := by omega
    have ro : rngOk (1 + (q : Int)) = true := by
      unfold rngOk
      simp
      omega
    have ln : (rngL 0 (1 + (q : Int)).toNat).length = 1 + q := by
      unfold rngL
      rw [List.length_map, List.length_range]
      omega
    obtain ⟨x', c', t', e, e1, e2⟩ := rloop (N := 2 ^ 1000) mul1000 (C := C) (wr := wrOf G) (a := a) (m := m) wh b0 b1 hC (rngL 0 (1 + (q : Int)).toNat) 0 c .un rfl c0 (by rw [ln]; omega) (by
      rw [ln, Nat.zero_add, Nat.one_mul]
      exact Nat.pow_le_pow_right (by decide) (by omega))
    rw [ln] at e2
    have f2 := fm (a := (x' : Int)) (b := m) (by omega)
    have e : forLoop (.nm 3) _ (rngL 0 (1 + (q : Int)).toNat) [.io (.list [.int a, .int b, .int c]), .sh (.int m), .sh (.int 0), .un] = _ := e
    refine ⟨(x' : Int).fmod m, .list [.int a, .int b, .int c'], ?_, f2.1, f2.2, _, _, _, rfl, a0, b0, b1, by omega, by omega⟩
    simp -implicitDefEqProofs [fRand, runFn, shapeOk, Slot.rd, ha, mz, d30, e30, ro, e]
end
end TL
/-! TL33: how long the shown text of data is. -/
namespace TL
open PySem
local instance : Plc := ⟨fun _ _ => False, fun _ _ => False⟩
/-- shown, and all its dicts of the first kind -/
def shw (d : D) : Bool := plainD d && d.showable
def shwA (ds : List D) : Bool := plainA ds && PyData.showableAll ds
theorem shwA_cons (d : D) (ds : List D) : shwA (d :: ds) = (shw d && shwA ds) := by
  unfold shwA shw
  simp only [plainA, PyData.showableAll]
  cases plainD d <;> cases plainA ds <;> cases d.showable <;> cases PyData.showableAll ds <;> rfl
theorem shw_list (ds : List D) : shw (.list ds) = shwA ds := by unfold shw shwA; simp only [plainD, PyData.showable]
theorem shw_tup (ds : List D) : shw (.tuple ds) = shwA ds := by unfold shw shwA; simp only [plainD, PyData.showable]
theorem shw_ok {d : D} (h : shw d = true) : (plainD d && d.showable) = true := h
/-- data of depth k and bulk n, the numbers short -/
structure Nc (k n : Nat) (d : D) : Prop where
  show_ : shw d = true
  short : d.leavesShort 13 = true
  depth : d.depth ≤ k
  bulk : d.bulk ≤ n
structure NcA (k n : Nat) (ds : List D) : Prop where
  show_ : shwA ds = true
  short : PyData.leavesShortAll 13 ds = true
  depth : PyData.depthAll ds ≤ k
  bulk : PyData.bulkAll ds ≤ n
section
variable {k k' n m : Nat}
theorem Nc.mono {d : D} (h : Nc k n d) (a : k ≤ k') (b : n ≤ m) : Nc k' m d := ⟨h.show_, h.short, Nat.le_trans h.depth a, Nat.le_trans h.bulk b⟩
theorem NcA.mono {d : List D} (h : NcA k n d) (a : k ≤ k') (b : n ≤ m) : NcA k' m d := ⟨h.show_, h.short, Nat.le_trans h.depth a, Nat.le_trans h.bulk b⟩
theorem Nc.repr {d : D} (h : Nc 60 1000000 d) : reprOk d = true := by
  unfold reprOk
  have a := PyData.shown_le_bulk 13 (by decide) d h.short
  have b := h.bulk
  have c := h.depth
  rw [shw_ok h.show_, decide_eq_true (show d.depth ≤ 64 by omega), decide_eq_true (show d.shown.length ≤ sizeLine by
    have e : sizeLine = 16777216 := by decide
    omega)]
  rfl
theorem NcA.nil : NcA k n [] := ⟨rfl, rfl, Nat.zero_le _, Nat.zero_le _⟩
theorem NcA.cons {d : D} {ds : List D} (a : Nc k n d) (b : NcA k m ds) : NcA k (n + 1 + m) (d :: ds) where
  show_ := by simp [shwA_cons, a.show_, b.show_]
  short := by simp [PyData.leavesShortAll, a.short, b.short]
  depth := by
    have := a.depth
    have := b.depth
    simp [PyData.depthAll]
    omega
  bulk := by
    have := a.bulk
    have := b.bulk
    simp [PyData.bulkAll]
    omega
theorem NcA.app : ∀ {ds es : List D} {n m : Nat}, NcA k n ds → NcA k m es → NcA k (n + m) (ds ++ es)
  | [], es, n, m, _, b => b.mono (Nat.le_refl _) (Nat.le_add_left _ _)
  | d :: ds, es, n, m, a, b => by
    have s : shw d = true ∧ shwA ds = true := by simpa [shwA_cons] using a.show_
    have l : d.leavesShort 13 = true ∧ PyData.leavesShortAll 13 ds = true := by simpa [PyData.leavesShortAll] using a.short
    have p : d.depth ≤ k ∧ PyData.depthAll ds ≤ k := by
      have := a.depth
      simp [PyData.depthAll] at this
      omega
    have q : d.bulk + 1 + PyData.bulkAll ds ≤ n := by
      have := a.bulk
      simp [PyData.bulkAll] at this
      omega
    have ih := NcA.app (ds := ds) (n := PyData.bulkAll ds) ⟨s.2, l.2, p.2, Nat.le_refl _⟩ b
    exact (NcA.cons (n := d.bulk) ⟨s.1, l.1, p.1, Nat.le_refl _⟩ ih).mono (Nat.le_refl _) (by omega)
theorem NcA.take : ∀ (j : Nat) {ds : List D} {n : Nat}, NcA k n ds → NcA k n (ds.take j)
  | 0, ds, n, _ => by rw [List.take_zero]; exact .nil
  | j + 1, [], n, _ => .nil
  | j + 1, d :: ds, n, a => by
    have s : shw d = true ∧ shwA ds = true := by simpa [shwA_cons] using a.show_
    have l : d.leavesShort 13 = true ∧ PyData.leavesShortAll 13 ds = true := by simpa [PyData.leavesShortAll] using a.short
    have p : d.depth ≤ k ∧ PyData.depthAll ds ≤ k := by
      have := a.depth
      simp [PyData.depthAll] at this
      omega
    have q : d.bulk + 1 + PyData.bulkAll ds ≤ n := by
      have := a.bulk
      simp [PyData.bulkAll] at this
      omega
    have ih := NcA.take j (ds := ds) (n := PyData.bulkAll ds) ⟨s.2, l.2, p.2, Nat.le_refl _⟩
    exact (NcA.cons (n := d.bulk) ⟨s.1, l.1, p.1, Nat.le_refl _⟩ ih).mono (Nat.le_refl _) (by omega)
theorem NcA.tail {d : D} {ds : List D} (a : NcA k n (d :: ds)) : NcA k n ds where
  show_ := by have := a.show_; simp [shwA_cons] at this; exact this.2
  short := by have := a.short; simp [PyData.leavesShortAll] at this; exact this.2
  depth := by have := a.depth; simp [PyData.depthAll] at this; omega
  bulk := by have := a.bulk; simp [PyData.bulkAll] at this; omega
theorem NcA.drop : ∀ (j : Nat) {ds : List D}, NcA k n ds → NcA k n (ds.drop j)
  | 0, ds, a => a
  | j + 1, [], a => a
  | j + 1, d :: ds, a => NcA.drop j a.tail
theorem NcA.cut {ds : List D} (a : NcA k n ds) (l h : Option Int) : NcA k n (cut ds l h) := (a.drop _).take _
theorem Nc.list {ds : List D} (a : NcA k n ds) : Nc (k + 1) n (.list ds) where
  show_ := by simp [shw_list, a.show_]
  short := by simp [PyData.leavesShort, a.short]
  depth := by have := a.depth; simp [PyData.depth]; omega
  bulk := by have := a.bulk; simp [PyData.bulk]; omega
theorem Nc.tup {ds : List D} (a : NcA k n ds) : Nc (k + 1) n (.tuple ds) where
  show_ := by simp [shw_tup, a.show_]
  short := by simp [PyData.leavesShort, a.short]
  depth := by have := a.depth; simp [PyData.depth]; omega
  bulk := by have := a.bulk; simp [PyData.bulk]; omega
theorem Nc.int {i : Int} (h1 : -(10 ^ 12) < i) (h2 : i < 10 ^ 12) : Nc 0 0 (.int i) where
  show_ := by
    have a : i.natAbs < 2 ^ 64 := by omega
    have := log2_lt (by decide : 0 < 64) a
    simp [shw, plainD, PyData.showable]
    omega
  short := PyData.leavesShort_of_canLay0 13 (.int i) (by simp [PyData.canLay0]) (PyProof.Rows.intsShort_of_noneOrInC (lo := -999999999999) (hi := 999999999999) (by decide) (by decide) (.int i) (by
    simp [PyProof.Rows.noneOrInC]
    omega))
  depth := by simp [PyData.depth]
  bulk := by simp [PyData.bulk]
theorem NcA.ints : ∀ {ds : List D}, (∀ d ∈ ds, Nc k 0 d) → NcA k ds.length ds
  | [], _ => .nil
  | d :: ds, H => by
    have := NcA.cons (H d List.mem_cons_self) (NcA.ints (ds := ds) fun x hx => H x (List.mem_cons_of_mem _ hx))
    exact this.mono (Nat.le_refl _) (by rw [List.length_cons]; omega)
end
end TL
/-! TL34: more rules for simp: dicts, texts, arguments by name. -/
namespace TL
open PySem L2
local instance : Plc := ⟨fun _ _ => False, fun _ _ => False⟩
section
variable {α : Type} {C : Calls} {s : Slot} {g : Gv}
@[simp] theorem mutDc_c (i : Nat) : mutDc (s :: g) i = match (s :: g)[i]? with
    | some (.ow (.dict xs)) => some xs
    | some (.io (.dict xs)) => some xs
    | _ => none := rfl
@[simp] theorem setDc_c (i : Nat) (xs : List (D × D)) : setDc (s :: g) i xs = match (s :: g)[i]? with
    | some (.ow _) => (s :: g).set i (.ow (.dict xs))
    | some (.io _) => (s :: g).set i (.io (.dict xs))
    | _ => (s :: g) := rfl
@[simp] theorem finStoD_c (i : Nat) (d : D) (own : Bool) (b : Op) : finStoD i (.val d own) b (s :: g) = match b.res (s :: g) with
    | none => .bad
    | some kd => match keyOf kd with
      | none => .bad
      | some k => match mutDc (s :: g) i with
        | none => .bad
        | some xs => if xs.length < sizeLine then .ok .next (setDc (s :: g) i (dputD xs k kd d)) else .bad := rfl
@[simp] theorem putsO_n : putsO g [] [] = some g := rfl
@[simp] theorem putsO_t (i : Nat) (is : List Nat) (d : D) (os : List Op) : putsO (s :: g) (i :: is) (.val d true :: os) = match put (s :: g) i (.ow d) with
    | some g' => putsO g' is os
    | none => none := rfl
@[simp] theorem putsO_f (i : Nat) (is : List Nat) (d : D) (os : List Op) : putsO (s :: g) (i :: is) (.val d false :: os) = match put (s :: g) i (.sh d) with
    | some g' => putsO g' is os
    | none => none := rfl
@[simp] theorem finParO_c (is : List Nat) (os : List Op) : finParO is os (s :: g) = match putsO (s :: g) is os with
    | some g' => .ok .next g'
    | none => .bad := rfl
@[simp] theorem finEnum_c (a : Op) : finEnum a (s :: g) = match walkOk (s :: g) a, a.res (s :: g) with
    | true, some (.list ds) => .ok (TL.numbered 0 ds, locks (s :: g) a) (s :: g)
    | true, some (.str z) => if z.length ≤ sizeLine then .ok (TL.numbered 0 (signs z), locks (s :: g) a) (s :: g) else .bad
    | _, _ => .bad := rfl
@[simp] theorem finZip_c (a b : Op) : finZip a b (s :: g) = match walkOk (s :: g) a && walkOk (s :: g) b, a.res (s :: g), b.res (s :: g) with
    | true, some (.list xs), some (.list ys) => .ok (pairs xs ys, locks (s :: g) a ++ locks (lockL (s :: g) (locks (s :: g) a)) b) (s :: g)
    | true, some (.tuple xs), some (.tuple ys) => .ok (pairs xs ys, []) (s :: g)
    | _, _, _ => .bad := rfl
@[simp] theorem ofO_s (a : α) : ofO (some a) g = .ok a g := rfl
@[simp] theorem ofO_n : ofO (none : Option α) g = .bad := rfl
end
@[simp] theorem permO_n {α : Type} (os : List α) : permO [] os = some [] := rfl
@[simp] theorem permO_c {α : Type} (i : Nat) (r : List Nat) (os : List α) : permO (i :: r) os = match os[i]? with
    | none => none
    | some o => match permO r os with
      | none => none
      | some q => some (o :: q) := rfl
@[simp] theorem keyOf_i (i : Int) : keyOf (.int i) = some (.inl i) := rfl
@[simp] theorem keyOf_s (x : Str) : keyOf (.str x) = some (.inr x) := rfl
@[simp] theorem lrgD_i (n : Int) : lrgD (.int n) = if lrgOk 0 n = true then some (.list (rngL 0 n.toNat), true) else none := rfl
@[simp] theorem lrg2D_i (i j : Int) : lrg2D (.int i) (.int j) = if lrgOk i j = true then some (.list (rngL i (j - i).toNat), true) else none := rfl
@[simp] theorem lenrD_i (n : Int) : lenrD (.int n) = if lrgOk 0 n = true then some (.int (n.toNat : Nat), false) else none := rfl
@[simp] theorem dxD_s (d : D) (x : Str) : dxD d (.str x) = some (.dict [(.str x, d)], true) := rfl
@[simp] theorem dxD_i (d : D) (x : Int) : dxD d (.int x) = some (.dict [(.int x, d)], true) := rfl
@[simp] theorem get1D_d (xs : List (D × D)) (y : D) : get1D (.dict xs) y = if okK xs = true then (keyOf y).map fun k => ((dgetD xs k).getD .none, false) else none := rfl
@[simp] theorem get2D_d (df : D) (xs : List (D × D)) (y : D) : get2D df (.dict xs) y = if (scalarD df && okK xs) = true then (keyOf y).map fun k => ((dgetD xs k).getD df, false) else none := rfl
@[simp] theorem tysO_e (ts : List Ty) (d : D) : tysO ts d = if tyd d = true then some (.bool (ts.any fun t => isTy t d), false) else none := rfl
@[simp] theorem revD_l (xs : List D) : revD (.list xs) = some (.list xs.reverse, true) := rfl
@[simp] theorem revD_s (z : Str) : revD (.str z) = if z.length ≤ sizeLine then some (.str (revS z), false) else none := rfl
@[simp] theorem c_inS (x z : Str) : cmpD .In (.str x) (.str z) = inS x z := rfl
@[simp] theorem c_ninS (x z : Str) : cmpD .NotIn (.str x) (.str z) = (inS x z).map (!·) := rfl
@[simp] theorem c_inD (x : Str) (ys : List (D × D)) : cmpD .In (.str x) (.dict ys) = if okK ys = true then some (dgetD ys (.inr x)).isSome else none := rfl
@[simp] theorem c_ninD (x : Str) (ys : List (D × D)) : cmpD .NotIn (.str x) (.dict ys) = if okK ys = true then some (!(dgetD ys (.inr x)).isSome) else none := rfl
@[simp] theorem b_shl (i j : Int) : binD .LShift (.int i) (.int j) = if shlOk i j = true then some (.int (i * 2 ^ j.toNat), false) else none := rfl
@[simp] theorem b_repS (i : Str) (j : Int) : binD .Mult (.str i) (.int j) = if repOk j i.length = true then some (.str (repS j i), false) else none := rfl
@[simp] theorem b_catS (i j : Str) : binD .Add (.str i) (.str j) = if i.length + j.length ≤ sizeLine then some (.str (i ++ j), false) else none := rfl
@[simp] theorem ix_d (xs : List (D × D)) (k : D) : idxD (.dict xs) k = if okK xs = true then (keyOf k).bind (dgetD xs) else none := rfl
@[simp] theorem ix_s (z : Str) (i : Int) : idxD (.str z) (.int i) = if z.length ≤ sizeLine then (L2.atI z.cps.toList i).map (fun c => .str ⟨#[c]⟩) else none := rfl
@[simp] theorem sl_s (z : Str) (l h : Option Int) : slD (.str z) l h = if z.length ≤ sizeLine then some (.str (L2.cutS z l h), false) else none := rfl
@[simp] theorem bi_lenS (z : Str) : biD .len [.str z] = if z.length ≤ sizeLine then some (.int z.length, false) else none := rfl
@[simp] theorem bi_lenD (xs : List (D × D)) : biD .len [.dict xs] = if okK xs = true then some (.int xs.length, false) else none := rfl
@[simp] theorem bi_intS (z : Str) : biD .int [.str z] = if z.length ≤ 640 then (PySem.intText? z).map (fun n => (.int n, false)) else none := rfl
@[simp] theorem bi_intB (b : Bool) : biD .int [.bool b] = some (.int (if b then 1 else 0), false) := rfl
@[simp] theorem items_s (x : Str) : items (.str x) = if x.length ≤ sizeLine then some (signs x) else none := rfl
@[simp] theorem jn_l (a : Str) (xs : List D) : joinD (.str a) (.list xs) = (asStrs xs).bind (joinS a) := rfl

@[simp] theorem bind_tl (is : List Nat) (ds : List D) (g : Gv) : bindTg (.tp is) (.list ds) g = puts g is ds := rfl
@[simp] theorem b_xor (i j : Int) : binD .BitXor (.int i) (.int j) = some (.int (Builtin.bitXor i j), false) := rfl
@[simp] theorem bi_strI (i : Int) : biD .str [.int i] = if i.natAbs.log2 < 12000 then some (.str (toString i), false) else none := rfl
@[simp] theorem bi_sortS (z : Str) : biD .sorted [.str z] = if z.length < 64 then some (.list ((ssort (chS z)).map .str), true) else none := rfl
@[simp] theorem bi_sortL (xs : List D) : biD .sorted [.list xs] = sortD xs := rfl
theorem sortD_some {xs : List D} {ns : List Int} (h : asInts xs = some ns) : sortD xs = some (.list ((isort ns).map .int), true) := by
  unfold sortD
  rw [h]
@[simp] theorem findD_s (z y : Str) : findD z (.str y) = some (.int (PySem.Txt.find z y), false) := rfl
@[simp] theorem ssetD_l (xs : List D) : ssetD (.list xs) = (asInts xs).bind fun ns => if ns.length < 60 then some (.list ((usort ns).map .int), true) else none := rfl
@[simp] theorem bi_listS (z : Str) : biD .list [.str z] = if z.length ≤ sizeLine then some (.list (signsD z), true) else none := rfl
@[simp] theorem bi_dictL (xs : List D) : biD .dict [.list xs] = (asPrs xs).map fun ps => (.dict (mergeD [] ps), true) := rfl
@[simp] theorem c_ltS (x y : Str) : cmpD .Lt (.str x) (.str y) = some (ltS x y) := rfl
@[simp] theorem c_leS (x y : Str) : cmpD .LtE (.str x) (.str y) = some (!ltS y x) := rfl
@[simp] theorem c_gtS (x y : Str) : cmpD .Gt (.str x) (.str y) = some (ltS y x) := rfl
@[simp] theorem c_geS (x y : Str) : cmpD .GtE (.str x) (.str y) = some (!ltS x y) := rfl
@[simp] theorem m1_count (xs : List D) (k : Int) : m1D .count (.list xs) (.int k) = (asInts xs).map fun ns => (.int (ns.count k : Nat), false) := rfl
@[simp] theorem m1_index (xs : List D) (y : Str) : m1D .index (.list xs) (.str y) = (allStrs xs).bind fun zs => (findS y 0 zs).map fun j => (.int (j : Nat), false) := rfl
@[simp] theorem frz_e (is : List Nat) (g : Gv) : frz is g = frzF is 0 g := rfl
@[simp] theorem frzF_n (is : List Nat) (n : Nat) : frzF is n [] = [] := rfl
@[simp] theorem frzF_c (is : List Nat) (n : Nat) (s : Slot) (r : Gv) : frzF is n (s :: r) = frzS is n s :: frzF is (n + 1) r := rfl
@[simp] theorem frzS_ow (is : List Nat) (i : Nat) (d : D) : frzS is i (.ow d) = if is.contains i = true then .sh d else .lk d := rfl
@[simp] theorem frzS_io (is : List Nat) (i : Nat) (d : D) : frzS is i (.io d) = .lk d := rfl
@[simp] theorem frzS_sh (is : List Nat) (i : Nat) (d : D) : frzS is i (.sh d) = .sh d := rfl
@[simp] theorem frzS_lk (is : List Nat) (i : Nat) (d : D) : frzS is i (.lk d) = .lk d := rfl
@[simp] theorem frzS_un (is : List Nat) (i : Nat) : frzS is i .un = .un := rfl
@[simp] theorem sc_bool (b : Bool) : scalarD (.bool b) = true := rfl
@[simp] theorem sc_int (b : Int) : scalarD (.int b) = true := rfl
@[simp] theorem sc_str (b : Str) : scalarD (.str b) = true := rfl
@[simp] theorem sc_none : scalarD .none = true := rfl
/-! ### a def's body, statement by statement -/
theorem exs_step {C : Calls} {wr : Nat → Bool} {s : S} {r : Ss} {g g' : Gv} (h : ex C wr s g = .ok .next g') : exs C wr (.cons s r) g = exs C wr r g' := by
  rw [exs_cons, h]
  rfl
theorem exs_ret {C : Calls} {wr : Nat → Bool} {s : S} {r : Ss} {g g' : Gv} {d : D} {own : Bool} (h : ex C wr s g = .ok (.ret d own) g') : exs C wr (.cons s r) g = .ok (.ret d own) g' := by
  rw [exs_cons, h]
  rfl
theorem run_ret {G : List Fn} {n i : Nat} {F : Fn} {as g' : Gv} {d : D} {own : Bool} {io : Option D} (hF : G[i]? = some F) (ha : (as.length == F.np && shapeOk F.w as) = true) (hb : exs (run G n) (wrOf G) F.body (as ++ List.replicate (F.N.length - F.np) .un) = .ok (.ret d own) g') (hio : ioOf F.w g' = some io) : run G (n + 1) i as = .ok d own io := by
  rw [run_at hF, if_pos ha]
  unfold runFn
  rw [hb]
  simp only [hio]
theorem whL_step {t : Gv → Rs Op} {b : Gv → Rs Fl} {n : Nat} {g : Gv} : whLoop t b (n + 1) g = (t g).bind fun a g => br (tst a g) ((b g).bind fun f g2 => turn f g2 (whLoop t b n g2)) (.ok .next g) := rfl
/-! ### texts of two signs -/
def bc (b : Bool) : Nat := if b then 49 else 48
def RS (bs : List Bool) : Str := ⟨(bs.map bc).toArray⟩
theorem RS_len (bs : List Bool) : (RS bs).length = bs.length := by
  show ((bs.map bc).toArray).size = _
  simp
theorem RS_cps (bs : List Bool) : (RS bs).cps.toList = bs.map bc := rfl
theorem RS_one (b : Bool) : RS [b] = if b then ("1" : Str) else ("0" : Str) := by cases b <;> decide +kernel
theorem RS_signs (bs : List Bool) : signs (RS bs) = bs.map fun b => .str (RS [b]) := by
  unfold signs
  rw [RS_cps, List.map_map]
  rfl
theorem RS_rev (bs : List Bool) : revS (RS bs) = RS bs.reverse := by
  unfold revS
  rw [RS_cps, ← List.map_reverse]
  rfl
theorem RS_app (a b : List Bool) : RS a ++ RS b = RS (a ++ b) := by
  show (⟨(a.map bc).toArray ++ (b.map bc).toArray⟩ : Str) = ⟨((a ++ b).map bc).toArray⟩
  simp
theorem rep_one {α : Type} (a : α) : ∀ n : Nat, (List.replicate n [a]).flatten = List.replicate n a
  | 0 => rfl
  | n + 1 => by rw [List.replicate_succ, List.flatten_cons, rep_one a n]; rfl
theorem RS_rep (k : Int) : repS k ("0" : Str) = RS (List.replicate k.toNat false) := by
  have e : ("0" : Str) = RS [false] := (RS_one false).symm
  rw [e]
  show (⟨((List.replicate k.toNat [48]).flatten).toArray⟩ : Str) = ⟨((List.replicate k.toNat false).map bc).toArray⟩
  rw [rep_one, List.map_replicate]
  rfl
theorem RS_inj {a b : List Bool} (h : RS a = RS b) : a = b := by
  have h2 : a.map bc = b.map bc := by rw [← RS_cps, ← RS_cps, h]
  have inj : ∀ {x y : Bool}, bc x = bc y → x = y := by intro x y; cases x <;> cases y <;> decide
  have go : ∀ {a b : List Bool}, a.map bc = b.map bc → a = b := by
    intro a
    induction a with
    | nil => intro b h; cases b with
      | nil => rfl
      | cons _ _ => cases h
    | cons x xs ih => intro b h; cases b with
      | nil => cases h
      | cons y ys =>
        rw [List.map_cons, List.map_cons] at h
        obtain ⟨h1, h2⟩ := List.cons.inj h
        rw [inj h1, ih h2]
  exact go h2
theorem joinL_nil : ∀ ys : List (List Nat), TL.joinL [] ys = ys.flatten
  | [] => rfl
  | [y] => by simp [TL.joinL]
  | y :: z :: r => by
    have := joinL_nil (z :: r)
    simp [TL.joinL] at this ⊢
    exact this
theorem flat_bc : ∀ bs : List Bool, (bs.map fun b => [bc b]).flatten = bs.map bc
  | [] => rfl
  | b :: r => by rw [List.map_cons, List.flatten_cons, List.map_cons, flat_bc r]; rfl
theorem RS_join (bs : List Bool) : PySem.Txt.join ("" : Str) (bs.map fun b => RS [b]) = RS bs := by
  have e := SX.join_S [] (bs.map fun b => [bc b])
  rw [List.map_map] at e
  have e2 : (([] : List Nat)).toArray = #[] := rfl
  have e3 : ("" : Str) = SX.S [] := by decide +kernel
  rw [e3]
  refine Eq.trans e ?_
  rw [joinL_nil]
  show (⟨((bs.map fun b => [bc b]).flatten).toArray⟩ : Str) = ⟨(bs.map bc).toArray⟩
  rw [flat_bc]
end TL
/-! TL35: what many laws share: comparing, picking, lists of numbers. -/
namespace TL
open PySem
local instance : Plc := ⟨fun _ _ => False, fun _ _ => False⟩
def fSame (c : Nat) : Fn := { name := "_law_same", N := ["found", "due", "one", "other", "key"], np := 2, w := false, kw := [], kp := [], body := (.cons (.ife (.isT (.b 1) [.list, .tuple]) (.cons (.ife (.or (.cons (.cmp .NotEq (.isi (.b 0) .list) (.isi (.b 1) .list)) (.cons (.cmp .NotEq (.isi (.b 0) .tuple) (.isi (.b 1) .tuple)) .nil))) (.cons (.ret (.k (.bool false))) .nil) .nil) (.cons (.ret (.and (.cons (.cmp .Eq (.bi .len (.cons (.b 0) .nil)) (.bi .len (.cons (.b 1) .nil))) (.cons (.bi .all (.cons (.lc [2, 3] (.tp [2, 3]) (.zip (.b 0) (.b 1)) .nil (.call c (.cons (.b 2) (.cons (.b 3) .nil)))) .nil)) .nil)))) .nil)) .nil) (.cons (.ife (.isi (.b 1) .dict) (.cons .nope (.cons .nope .nil)) .nil) (.cons (.ife (.isi (.b 1) .str) (.cons (.ret (.and (.cons (.isi (.b 0) .str) (.cons (.cmp .Eq (.b 0) (.b 1)) .nil)))) .nil) .nil) (.cons (.ife (.is (.b 1) .non false) (.cons (.ret (.is (.b 0) .non false)) .nil) .nil) (.cons (.ret (.and (.cons (.isi (.b 0) .int) (.cons (.cmp .Eq (.isi (.b 0) .bool) (.isi (.b 1) .bool)) (.cons (.cmp .Eq (.b 0) (.b 1)) .nil))))) .nil))))) }
def fExact (c : Nat) : Fn := { name := "_law_exact", N := ["told", "due", "one", "other"], np := 2, w := false, kw := [], kp := [], body := (.cons (.ife (.isi (.b 1) .list) (.cons (.ret (.and (.cons (.isi (.b 0) .list) (.cons (.cmp .Eq (.bi .len (.cons (.b 0) .nil)) (.bi .len (.cons (.b 1) .nil))) (.cons (.cmp .NotIn (.k (.bool false)) (.lc [2, 3] (.tp [2, 3]) (.zip (.b 0) (.b 1)) .nil (.call c (.cons (.b 2) (.cons (.b 3) .nil))))) .nil))))) .nil) .nil) (.cons (.ife (.isi (.b 1) .tuple) (.cons (.ret (.and (.cons (.isi (.b 0) .tuple) (.cons (.cmp .Eq (.bi .len (.cons (.b 0) .nil)) (.bi .len (.cons (.b 1) .nil))) (.cons (.cmp .NotIn (.k (.bool false)) (.lc [2, 3] (.tp [2, 3]) (.zip (.b 0) (.b 1)) .nil (.call c (.cons (.b 2) (.cons (.b 3) .nil))))) .nil))))) .nil) .nil) (.cons (.ife (.is (.b 1) .non false) (.cons (.ret (.is (.b 0) .non false)) .nil) .nil) (.cons (.ife (.is (.b 1) .tru false) (.cons (.ret (.is (.b 0) .tru false)) .nil) .nil) (.cons (.ife (.is (.b 1) .fal false) (.cons (.ret (.is (.b 0) .fal false)) .nil) .nil) (.cons (.ife (.isi (.b 1) .int) (.cons (.ret (.and (.cons (.isi (.b 0) .int) (.cons (.not (.isi (.b 0) .bool)) (.cons (.cmp .Eq (.b 0) (.b 1)) .nil))))) .nil) .nil) (.cons (.ret (.and (.cons (.isi (.b 0) .str) (.cons (.cmp .Eq (.b 0) (.b 1)) .nil)))) .nil))))))) }
def fPick (r : Nat) : Fn := { name := "_law_pick", N := ["generator", "things"], np := 2, w := true, kw := [], kp := [], body := (.cons (.ret (.idx (.b 1) (.call r (.cons (.b 0) (.cons (.bi .len (.cons (.b 1) .nil)) .nil))))) .nil) }

theorem bigN {n : Nat} (h : n ≤ 100000) : n ≤ sizeLine := Nat.le_trans h (by decide)
theorem ixN_nat {n j : Nat} (h : j < n) : L2.ixN n (j : Int) = some j := by
  unfold L2.ixN
  rw [if_pos (by omega), if_pos (by omega)]
  rfl
theorem eq_nilD (ys : List D) : cmpD .Eq (.list ys) (.list []) = some ys.isEmpty := by
  cases ys with
  | nil => rfl
  | cons y r =>
    show (if (eqOk (.list (y :: r)) && eqOk (.list [])) = true then some (PyData.eqv (.list (y :: r)) (.list [])) else lenEq (.list (y :: r)) (.list [])) = _
    by_cases h : (eqOk (.list (y :: r)) && eqOk (.list [])) = true
    · rw [if_pos h]; rfl
    · rw [if_neg h]; rfl
theorem ne_nilD (ys : List D) (q : eqOk (.list ys) = true) : cmpD .NotEq (.list ys) (.list []) = some (!ys.isEmpty) := by
  show (if (eqOk (.list ys) && eqOk (.list [])) = true then some (!PyData.eqv (.list ys) (.list [])) else none) = _
  rw [q]
  cases ys with
  | nil => rfl
  | cons y r => rfl
/-- data that a comparison may read -/
theorem eqOk_of {d : D} (h : d.canLay0 = true) (k : d.depth ≤ 64) : eqOk d = true := by
  show (d.canLay0 && decide (d.depth ≤ 64)) = true
  rw [h, decide_eq_true k]; rfl
theorem eqOk_lay {d : D} (h : eqOk d = true) : d.canLay0 = true := by
  have h : (d.canLay0 && decide (d.depth ≤ 64)) = true := h
  exact (Bool.and_eq_true_iff.mp h).1
theorem eq_self {d : D} (h : eqOk d = true) : eqD d d = some true := by
  unfold eqD
  rw [h, SeqAt.eqv_refl d (eqOk_lay h)]
  rfl
theorem ne_self {d : D} (h : eqOk d = true) : neD d d = some false := by
  unfold neD
  rw [h, SeqAt.eqv_refl d (eqOk_lay h)]
  rfl
theorem c_eqL (xs ys : List D) : cmpD .Eq (.list xs) (.list ys) = eqD (.list xs) (.list ys) := rfl
theorem c_neL (xs ys : List D) : cmpD .NotEq (.list xs) (.list ys) = neD (.list xs) (.list ys) := rfl
theorem any_ints (i : Int) : ∀ xs : List Int, anyIn (.int i) (xs.map .int) = decide (i ∈ xs)
  | [] => rfl
  | x :: r => by
    show (PyData.eqv (.int x) (.int i) || anyIn (.int i) (r.map .int)) = _
    rw [any_ints i r]
    have e : PyData.eqv (.int x) (.int i) = decide (x = i) := by
      by_cases q : x = i
      · subst q; simp [PyData.eqv]
      · simp [PyData.eqv, q]
    rw [e]
    by_cases q : x = i
    · subst q; simp
    · have : ¬ i = x := fun z => q z.symm
      simp [q, this]
theorem lay_intL : ∀ xs : List Int, PyData.canLayAll0 (xs.map .int) = true
  | [] => rfl
  | x :: r => by
    show ((PyData.int x).canLay0 && PyData.canLayAll0 (r.map .int)) = true
    rw [lay_intL r]
    simp [PyData.canLay0]
theorem dep_intL : ∀ xs : List Int, PyData.depthAll (xs.map .int) = 0
  | [] => rfl
  | x :: r => by
    rw [List.map_cons]
    simp only [PyData.depthAll, dep_intL r]
    simp [PyData.depth]
theorem eqOk_ints (xs : List Int) : eqOk (.list (xs.map .int)) = true := by
  refine eqOk_of ?_ ?_
  · simpa [PyData.canLay0] using lay_intL xs
  · simp [PyData.depth, dep_intL]
theorem eqOk_i (i : Int) : eqOk (.int i) = true := rfl
theorem in_intL (i : Int) (xs : List Int) : cmpD .In (.int i) (.list (xs.map .int)) = some (decide (i ∈ xs)) := by
  show (if (eqOk (.int i) && PyData.canLayAll0 (xs.map .int)) = true then some (anyIn (.int i) (xs.map .int)) else none) = _
  rw [eqOk_i, lay_intL, any_ints]
  rfl
theorem notin_intL (i : Int) (xs : List Int) : cmpD .NotIn (.int i) (.list (xs.map .int)) = some (!decide (i ∈ xs)) := by
  show (if (eqOk (.int i) && PyData.canLayAll0 (xs.map .int)) = true then some (!anyIn (.int i) (xs.map .int)) else none) = _
  rw [eqOk_i, lay_intL, any_ints]
  rfl
theorem eqv_ints : ∀ xs ys : List Int, PyData.eqvAll (xs.map .int) (ys.map .int) = decide (xs = ys)
  | [], [] => rfl
  | [], _ :: _ => rfl
  | _ :: _, [] => rfl
  | x :: xs, y :: ys => by
    have e : PyData.eqv (.int x) (.int y) = decide (x = y) := by
      by_cases q : x = y
      · subst q; simp [PyData.eqv]
      · simp [PyData.eqv, q]
    rw [List.map_cons, List.map_cons, PyData.eqvAll, e, eqv_ints xs ys]
    by_cases q : x = y
    · subst q
      by_cases r : xs = ys
      · simp [r]
      · simp [r]
    · simp [q]
theorem eq_intL (xs ys : List Int) : cmpD .Eq (.list (xs.map .int)) (.list (ys.map .int)) = some (decide (xs = ys)) := by
  rw [c_eqL]
  unfold eqD
  rw [eqOk_ints, eqOk_ints]
  show some (PyData.eqv (.list (xs.map .int)) (.list (ys.map .int))) = _
  rw [PyData.eqv, eqv_ints]
theorem ne_intL (xs ys : List Int) : cmpD .NotEq (.list (xs.map .int)) (.list (ys.map .int)) = some (!decide (xs = ys)) := by
  rw [c_neL]
  unfold neD
  rw [eqOk_ints, eqOk_ints]
  show some (!PyData.eqv (.list (xs.map .int)) (.list (ys.map .int))) = _
  rw [PyData.eqv, eqv_ints]
theorem asInts_map : ∀ xs : List Int, asInts (xs.map .int) = some xs
  | [] => rfl
  | x :: xs => by
    show (asInts (xs.map .int)).map (x :: ·) = _
    rw [asInts_map xs]; rfl
theorem sortD_ints (xs : List Int) : sortD (xs.map .int) = some (.list ((isort xs).map .int), true) := sortD_some (asInts_map xs)
theorem lay_strL : ∀ xs : List Str, (∀ x ∈ xs, PyData.strOk x = true) → PyData.canLayAll0 (xs.map .str) = true
  | [], _ => rfl
  | x :: r, h => by
    show ((PyData.str x).canLay0 && PyData.canLayAll0 (r.map .str)) = true
    rw [lay_strL r fun y hy => h y (List.mem_cons_of_mem _ hy)]
    simp [PyData.canLay0, h x List.mem_cons_self]
theorem dep_strL : ∀ xs : List Str, PyData.depthAll (xs.map .str) = 0
  | [] => rfl
  | x :: r => by
    rw [List.map_cons]
    simp only [PyData.depthAll, dep_strL r]
    simp [PyData.depth]
theorem eqOk_strs {xs : List Str} (h : ∀ x ∈ xs, PyData.strOk x = true) : eqOk (.list (xs.map .str)) = true := by
  refine eqOk_of ?_ ?_
  · simpa [PyData.canLay0] using lay_strL xs h
  · simp [PyData.depth, dep_strL]
/-- a place that may be assigned -/
def asg (t : Slot) : Prop := t = .un ∨ (∃ d, t = .sh d) ∨ ∃ d, t = .ow d
theorem asg_un : asg .un := .inl rfl
theorem asg_sh {d : D} : asg (.sh d) := .inr (.inl ⟨d, rfl⟩)
theorem asg_ow {d : D} : asg (.ow d) := .inr (.inr ⟨d, rfl⟩)
def natL (xs : List Nat) : List D := xs.map fun i : Nat => PyData.int (i : Int)
theorem natL_ints (xs : List Nat) : natL xs = (xs.map fun i : Nat => (i : Int)).map .int := by
  unfold natL
  rw [List.map_map]
  rfl
/-! ### ranges -/
theorem rngL_len (lo : Int) (m : Nat) : (rngL lo m).length = m := by unfold rngL; simp
theorem rngL_map (m : Nat) : rngL 0 m = (List.range m).map fun r => .int (r : Nat) := by
  unfold rngL
  refine List.map_congr_left fun r _ => ?_
  simp
theorem rngOk_nat {m : Nat} (h : m ≤ 1000000) : rngOk (m : Int) = true := by unfold rngOk; simp; omega
theorem rngOk_int {m : Int} (h1 : -1000000 ≤ m) (h2 : m ≤ 1000000) : rngOk m = true := by unfold rngOk; simp; omega
/-! ### comprehensions that draw -/
theorem finLc_of {vs : List Nat} {tg : Tg} {rng : Bool} {ft : Gv → Rs Bool} {fx : Gv → Rs Op} {p ds : List D} {g g' : Gv} (h : lcLoop vs tg ft fx p [] (wipeG g vs) = .ok ds g') (small : p.length ≤ sizeLine) : finLc vs tg rng ft fx (p, []) g = .ok (.val (.list ds) true) (backG g g' vs) := by
  unfold finLc
  rw [if_neg (fun z => absurd z.2 (Nat.not_lt.mpr small))]
  simp only [lockL_nil, unlockL_nil, h]
/-! ### equal things are told the same -/
mutual
/-- data of depth k at most without dicts -/
def plnD : Nat → D → Bool
  | _, .none => true
  | _, .bool _ => true
  | _, .int _ => true
  | _, .str _ => true
  | k, .list xs => match k with | 0 => false | k + 1 => plnA k xs
  | k, .tuple xs => match k with | 0 => false | k + 1 => plnA k xs
  | _, .dict _ => false
def plnA : Nat → List D → Bool
  | _, [] => true
  | k, x :: xs => plnD k x && plnA k xs
end
theorem plnA_mem {k : Nat} : ∀ {xs : List D}, plnA k xs = true → ∀ x ∈ xs, plnD k x = true
  | [], _, x, h => nomatch h
  | y :: ys, h, x, hx => by
    rw [plnA, Bool.and_eq_true] at h
    rcases List.mem_cons.mp hx with rfl | hx
    · exact h.1
    · exact plnA_mem h.2 x hx
theorem plnA_of {k : Nat} : ∀ {xs : List D}, (∀ x ∈ xs, plnD k x = true) → plnA k xs = true
  | [], _ => by rw [plnA]
  | y :: ys, h => by rw [plnA, h y List.mem_cons_self, plnA_of fun x hx => h x (List.mem_cons_of_mem _ hx)]; rfl
theorem plain_list {k : Nat} {xs : List D} (h : ∀ x ∈ xs, plnD k x = true) : plnD (k + 1) (.list xs) = true := by rw [plnD]; exact plnA_of h
theorem plain_tup {k : Nat} {xs : List D} (h : ∀ x ∈ xs, plnD k x = true) : plnD (k + 1) (.tuple xs) = true := by rw [plnD]; exact plnA_of h
theorem plain_int (k : Nat) (i : Int) : plnD k (.int i) = true := by rw [plnD]
theorem plain_bool (k : Nat) (i : Bool) : plnD k (.bool i) = true := by rw [plnD]
theorem plain_str (k : Nat) (i : Str) : plnD k (.str i) = true := by rw [plnD]
theorem plain_none (k : Nat) : plnD k .none = true := by rw [plnD]
theorem plain_ints (k : Nat) (xs : List Int) : plnD (k + 1) (.list (xs.map .int)) = true := plain_list fun x hx => by
  obtain ⟨i, _, rfl⟩ := List.mem_map.mp hx
  exact plain_int k i
theorem pairsR : ∀ xs : List D, pairs xs xs = xs.map fun x => .tuple [x, x]
  | [] => rfl
  | x :: xs => by
    show .tuple [x, x] :: pairs xs xs = _
    rw [pairsR xs]
    rfl
theorem boolsT : ∀ xs : List D, asBools (xs.map fun _ => .bool true) = some (xs.map fun _ => true)
  | [] => rfl
  | x :: xs => by
    show (asBools (xs.map fun _ => .bool true)).map (true :: ·) = _
    rw [boolsT xs]; rfl
section
variable {G : List Fn} {i : Nat}
theorem w_same (hG : G[i]? = some (fSame i)) : wrOf G i = false := by unfold wrOf; rw [hG]; rfl
theorem same_seq (hG : G[i]? = some (fSame i)) (n : Nat) (xs : List D) (q : List D → D) (hq : q = .list ∨ q = .tuple) (a : Slot) (ha : a = .sh (q xs) ∨ a = .lk (q xs)) (H : ∀ x ∈ xs, TL.run G n i [.sh x, .sh x] = .ok (.bool true) false none) : TL.run G (n + 1) i [a, .sh (q xs)] = .ok (.bool true) false none := by
  rw [TL.run_at hG]
  have w := w_same hG
  generalize TL.run G n = C at H ⊢
  have e0 : cmpD .NotEq (.bool true) (.bool true) = some false := rfl
  have e1 : cmpD .NotEq (.bool false) (.bool false) = some false := rfl
  have a1 : biD .all [.list (xs.map ((fun _ => PyData.bool true) ∘ fun x => PyData.tuple [x, x]))] = some (.bool true, false) := by
    show (asBools (xs.map fun _ => .bool true)).map (fun bs => (PyData.bool (bs.all id), false)) = _
    rw [boolsT]
    simp
  have lc : ∀ (r : Slot), finLc [2, 3] (.tp [2, 3]) false (evTs C (wrOf G) .nil) (ev C (wrOf G) (.call i (.cons (.b 2) (.cons (.b 3) .nil)))) (xs.map fun x => .tuple [x, x], []) [r, .sh (q xs), .un, .un, .un] =
      .ok (.val (.list (xs.map ((fun _ => PyData.bool true) ∘ fun x => PyData.tuple [x, x]))) true) [r, .sh (q xs), .un, .un, .un] := fun r => by
    rw [lc_fin (p := fun _ => true) (h := fun _ => .bool true)]
    · rw [filter_tt, List.map_map]; rfl
    · intro d hd
      obtain ⟨x, hx, rfl⟩ := List.mem_map.mp hd
      have c := H x hx
      refine ⟨[r, .sh (q xs), .sh x, .sh x, .un], rfl, rfl, fun _ => ⟨false, ?_⟩, rfl⟩
      simp -implicitDefEqProofs [w, c]
    · intro z; cases z
  have Z : ∀ (r : Slot), (r = .sh (q xs) ∨ r = .lk (q xs)) → finZip (.slot 0) (.slot 1) [r, .sh (q xs), .un, .un, .un] = .ok (xs.map fun x => .tuple [x, x], []) [r, .sh (q xs), .un, .un, .un] := fun r hr => by
    rcases hr with rfl | rfl <;> rcases hq with rfl | rfl
    · show Rs.ok (pairs xs xs, []) _ = _
      rw [pairsR]
    · show Rs.ok (pairs xs xs, []) _ = _
      rw [pairsR]
    · show Rs.ok (pairs xs xs, []) _ = _
      rw [pairsR]
    · show Rs.ok (pairs xs xs, []) _ = _
      rw [pairsR]
  rcases ha with rfl | rfl
  · have F := lc (.sh (q xs))
    have ZZ := Z (.sh (q xs)) (.inl rfl)
    rcases hq with rfl | rfl
    · simp -implicitDefEqProofs [fSame, runFn, shapeOk, Slot.rd, isTy, isD, e0, e1, ZZ, F, a1, -List.map_map]
    · simp -implicitDefEqProofs [fSame, runFn, shapeOk, Slot.rd, isTy, isD, e0, e1, ZZ, F, a1, -List.map_map]
  · have F := lc (.lk (q xs))
    have ZZ := Z (.lk (q xs)) (.inr rfl)
    rcases hq with rfl | rfl
    · simp -implicitDefEqProofs [fSame, runFn, shapeOk, Slot.rd, isTy, isD, e0, e1, ZZ, F, a1, -List.map_map]
    · simp -implicitDefEqProofs [fSame, runFn, shapeOk, Slot.rd, isTy, isD, e0, e1, ZZ, F, a1, -List.map_map]
theorem same_at (hG : G[i]? = some (fSame i)) (n : Nat) {d : D} (h : plnD 0 d = true) : TL.run G (n + 1) i [.sh d, .sh d] = .ok (.bool true) false none := by
  rw [TL.run_at hG]
  generalize TL.run G n = C
  cases d with
  | none => simp -implicitDefEqProofs [fSame, runFn, shapeOk, Slot.rd, isTy, isD]
  | bool b =>
    have e : cmpD .Eq (.bool b) (.bool b) = some true := by cases b <;> rfl
    have e2 : cmpD .Eq (.bool true) (.bool true) = some true := rfl
    simp -implicitDefEqProofs [fSame, runFn, shapeOk, Slot.rd, isTy, isD, e, e2]
  | int j =>
    have e2 : cmpD .Eq (.bool false) (.bool false) = some true := rfl
    simp -implicitDefEqProofs [fSame, runFn, shapeOk, Slot.rd, isTy, isD, e2]
  | str z => simp -implicitDefEqProofs [fSame, runFn, shapeOk, Slot.rd, isTy, isD]
  | list xs => rw [plnD] at h; cases h
  | tuple xs => rw [plnD] at h; cases h
  | dict xs => rw [plnD] at h; cases h
theorem plain_zero {k : Nat} {d : D} (h : plnD k d = true) (h1 : ∀ xs, d ≠ .list xs) (h2 : ∀ xs, d ≠ .tuple xs) : plnD 0 d = true := by
  cases d with
  | none => exact plain_none 0
  | bool b => exact plain_bool 0 b
  | int b => exact plain_int 0 b
  | str b => exact plain_str 0 b
  | list xs => exact absurd rfl (h1 xs)
  | tuple xs => exact absurd rfl (h2 xs)
  | dict xs => rw [plnD] at h; cases h
/-- _law_same at equal things -/
theorem same_refl (hG : G[i]? = some (fSame i)) : ∀ (k n : Nat) {d : D} (a : Slot), (a = .sh d ∨ a = .lk d ∧ ∃ xs, d = .list xs) → plnD k d = true → TL.run G (n + k + 1) i [a, .sh d] = .ok (.bool true) false none
  | k, n, .list xs, a, ha, h => by
    have ha : a = .sh (.list xs) ∨ a = .lk (.list xs) := ha.imp id fun z => z.1
    cases k with
    | zero => rw [plnD] at h; cases h
    | succ k => exact same_seq hG (n + k + 1) xs .list (.inl rfl) a ha fun x hx => same_refl hG k n (.sh x) (.inl rfl) (plnA_mem (by rw [plnD] at h; exact h) x hx)
  | k, n, .tuple xs, a, ha, h => by
    rcases ha with rfl | ⟨_, ys, z⟩
    · cases k with
      | zero => rw [plnD] at h; cases h
      | succ k => exact same_seq hG (n + k + 1) xs .tuple (.inr rfl) _ (.inl rfl) fun x hx => same_refl hG k n (.sh x) (.inl rfl) (plnA_mem (by rw [plnD] at h; exact h) x hx)
    · cases z
  | k, n, .none, a, ha, h => by
    rcases ha with rfl | ⟨_, ys, z⟩
    · exact same_at hG (n + k) (plain_none 0)
    · cases z
  | k, n, .bool b, a, ha, h => by
    rcases ha with rfl | ⟨_, ys, z⟩
    · exact same_at hG (n + k) (plain_bool 0 b)
    · cases z
  | k, n, .int b, a, ha, h => by
    rcases ha with rfl | ⟨_, ys, z⟩
    · exact same_at hG (n + k) (plain_int 0 b)
    · cases z
  | k, n, .str b, a, ha, h => by
    rcases ha with rfl | ⟨_, ys, z⟩
    · exact same_at hG (n + k) (plain_str 0 b)
    · cases z
  | k, n, .dict b, a, ha, h => by rw [plnD] at h; cases h
  termination_by k n d => k
/-- _law_same at equal things, any number of turns that is enough -/
theorem same_ok (hG : G[i]? = some (fSame i)) {k m : Nat} {d : D} (h : plnD k d = true) (hm : k + 1 ≤ m) : TL.run G m i [.sh d, .sh d] = .ok (.bool true) false none := by
  obtain ⟨n, rfl⟩ : ∃ n, m = n + k + 1 := ⟨m - k - 1, by omega⟩
  exact same_refl hG k n _ (.inl rfl) h
theorem same_okL (hG : G[i]? = some (fSame i)) {k m : Nat} {xs : List D} (h : plnD k (.list xs) = true) (hm : k + 1 ≤ m) : TL.run G m i [.lk (.list xs), .sh (.list xs)] = .ok (.bool true) false none := by
  obtain ⟨n, rfl⟩ : ∃ n, m = n + k + 1 := ⟨m - k - 1, by omega⟩
  exact same_refl hG k n _ (.inr ⟨rfl, xs, rfl⟩) h
end
/-! ### _law_exact -/
theorem map_tt : ∀ xs : List D, (((pairs xs xs).filter fun _ => true).map fun _ => PyData.bool true) = List.replicate xs.length (.bool true)
  | [] => rfl
  | x :: xs => by
    have := map_tt xs
    show PyData.bool true :: _ = _
    rw [List.length_cons, List.replicate_succ, ← this]
theorem mem_pairs {d : D} : ∀ {xs : List D}, d ∈ pairs xs xs → ∃ x, x ∈ xs ∧ d = .tuple [x, x]
  | [], h => by cases h
  | x :: xs, h => by
    rcases List.mem_cons.mp (show d ∈ .tuple [x, x] :: pairs xs xs from h) with h | h
    · exact ⟨x, List.mem_cons_self, h⟩
    · obtain ⟨y, hy, e⟩ := mem_pairs h
      exact ⟨y, List.mem_cons_of_mem _ hy, e⟩
section
variable {G : List Fn} {i : Nat}
theorem w_exact (hG : G[i]? = some (fExact i)) : wrOf G i = false := by unfold wrOf; rw [hG]; rfl
theorem exact_seq (hG : G[i]? = some (fExact i)) (n : Nat) (xs : List D) (q : List D → D) (hq : q = .list ∨ q = .tuple) (a : Slot) (ha : a = .sh (q xs) ∨ a = .lk (q xs)) (H : ∀ x ∈ xs, TL.run G n i [.sh x, .sh x] = .ok (.bool true) false none) : TL.run G (n + 1) i [a, .sh (q xs)] = .ok (.bool true) false none := by
  rw [TL.run_at hG]
  have w := w_exact hG
  generalize TL.run G n = C at H ⊢
  have lc : ∀ (r : Slot), finLc [2, 3] (.tp [2, 3]) false (evTs C (wrOf G) .nil) (ev C (wrOf G) (.call i (.cons (.b 2) (.cons (.b 3) .nil)))) (pairs xs xs, []) [r, .sh (q xs), .un, .un] = .ok (.val (.list (List.replicate xs.length (.bool true))) true) [r, .sh (q xs), .un, .un] := fun r => by
    have F := lc_fin (vs := [2, 3]) (tg := .tp [2, 3]) (rng := false) (ft := evTs C (wrOf G) .nil) (fx := ev C (wrOf G) (.call i (.cons (.b 2) (.cons (.b 3) .nil)))) (p := fun _ => true) (h := fun _ => .bool true) (g := [r, .sh (q xs), .un, .un]) (ds := pairs xs xs) (ls := []) (fun d hd => by
      obtain ⟨x, hx, rfl⟩ := mem_pairs hd
      refine ⟨[r, .sh (q xs), .sh x, .sh x], rfl, rfl, fun _ => ⟨false, ?_⟩, rfl⟩
      have c := H x hx
      simp -implicitDefEqProofs [w, c]) (fun z => by cases z)
    rw [map_tt] at F
    exact F
  have N := notin_tt xs.length
  have Z : ∀ (r : Slot), (r = .sh (q xs) ∨ r = .lk (q xs)) → finZip (.slot 0) (.slot 1) [r, .sh (q xs), .un, .un] = .ok (pairs xs xs, []) [r, .sh (q xs), .un, .un] := fun r hr => by
    rcases hr with rfl | rfl <;> rcases hq with rfl | rfl <;> rfl
  rcases ha with rfl | rfl
  · have F := lc (.sh (q xs))
    have ZZ := Z (.sh (q xs)) (.inl rfl)
    rcases hq with rfl | rfl
    · simp -implicitDefEqProofs [fExact, runFn, shapeOk, Slot.rd, isTy, isD, -finZip_c, ZZ, F, N]
    · simp -implicitDefEqProofs [fExact, runFn, shapeOk, Slot.rd, isTy, isD, -finZip_c, ZZ, F, N]
  · have F := lc (.lk (q xs))
    have ZZ := Z (.lk (q xs)) (.inr rfl)
    rcases hq with rfl | rfl
    · simp -implicitDefEqProofs [fExact, runFn, shapeOk, Slot.rd, isTy, isD, -finZip_c, ZZ, F, N]
    · simp -implicitDefEqProofs [fExact, runFn, shapeOk, Slot.rd, isTy, isD, -finZip_c, ZZ, F, N]
theorem exact_at (hG : G[i]? = some (fExact i)) (n : Nat) {d : D} (h : plnD 0 d = true) : TL.run G (n + 1) i [.sh d, .sh d] = .ok (.bool true) false none := by
  rw [TL.run_at hG]
  generalize TL.run G n = C
  cases d with
  | none => simp -implicitDefEqProofs [fExact, runFn, shapeOk, Slot.rd, isTy, isD]
  | bool b => cases b <;> simp -implicitDefEqProofs [fExact, runFn, shapeOk, Slot.rd, isTy, isD]
  | int j => simp -implicitDefEqProofs [fExact, runFn, shapeOk, Slot.rd, isTy, isD]
  | str z => simp -implicitDefEqProofs [fExact, runFn, shapeOk, Slot.rd, isTy, isD]
  | list xs => rw [plnD] at h; cases h
  | tuple xs => rw [plnD] at h; cases h
  | dict xs => rw [plnD] at h; cases h
theorem exact_refl (hG : G[i]? = some (fExact i)) : ∀ (k n : Nat) {d : D} (a : Slot), (a = .sh d ∨ a = .lk d ∧ ∃ xs, d = .list xs) → plnD k d = true → TL.run G (n + k + 1) i [a, .sh d] = .ok (.bool true) false none
  | k, n, .list xs, a, ha, h => by
    have ha : a = .sh (.list xs) ∨ a = .lk (.list xs) := ha.imp id fun z => z.1
    cases k with
    | zero => rw [plnD] at h; cases h
    | succ k => exact exact_seq hG (n + k + 1) xs .list (.inl rfl) a ha fun x hx => exact_refl hG k n (.sh x) (.inl rfl) (plnA_mem (by rw [plnD] at h; exact h) x hx)
  | k, n, .tuple xs, a, ha, h => by
    rcases ha with rfl | ⟨_, ys, z⟩
    · cases k with
      | zero => rw [plnD] at h; cases h
      | succ k => exact exact_seq hG (n + k + 1) xs .tuple (.inr rfl) _ (.inl rfl) fun x hx => exact_refl hG k n (.sh x) (.inl rfl) (plnA_mem (by rw [plnD] at h; exact h) x hx)
    · cases z
  | k, n, .none, a, ha, h => by
    rcases ha with rfl | ⟨_, ys, z⟩
    · exact exact_at hG (n + k) (plain_none 0)
    · cases z
  | k, n, .bool b, a, ha, h => by
    rcases ha with rfl | ⟨_, ys, z⟩
    · exact exact_at hG (n + k) (plain_bool 0 b)
    · cases z
  | k, n, .int b, a, ha, h => by
    rcases ha with rfl | ⟨_, ys, z⟩
    · exact exact_at hG (n + k) (plain_int 0 b)
    · cases z
  | k, n, .str b, a, ha, h => by
    rcases ha with rfl | ⟨_, ys, z⟩
    · exact exact_at hG (n + k) (plain_str 0 b)
    · cases z
  | k, n, .dict b, a, ha, h => by rw [plnD] at h; cases h
  termination_by k n d => k
theorem exact_ok (hG : G[i]? = some (fExact i)) {k m : Nat} {d : D} (h : plnD k d = true) (hm : k + 1 ≤ m) : TL.run G m i [.sh d, .sh d] = .ok (.bool true) false none := by
  obtain ⟨n, rfl⟩ : ∃ n, m = n + k + 1 := ⟨m - k - 1, by omega⟩
  exact exact_refl hG k n _ (.inl rfl) h
theorem exact_okL (hG : G[i]? = some (fExact i)) {k m : Nat} {xs : List D} (h : plnD k (.list xs) = true) (hm : k + 1 ≤ m) : TL.run G m i [.lk (.list xs), .sh (.list xs)] = .ok (.bool true) false none := by
  obtain ⟨n, rfl⟩ : ∃ n, m = n + k + 1 := ⟨m - k - 1, by omega⟩
  exact exact_refl hG k n _ (.inr ⟨rfl, xs, rfl⟩) h
/-! ### _law_pick -/
theorem pick_ok {r h : Nat} (hG : G[i]? = some (fPick r)) (hR : G[r]? = some (fRand h)) (hH : G[h]? = some fHash) {n K : Nat} {d : D} (g : Gen K d) (hK : K ≤ 10 ^ 11) {xs : List D} (x0 : xs ≠ []) (xl : xs.length ≤ 100000) (a : Slot) (ha : a = .sh (.list xs) ∨ a = .lk (.list xs)) :
    ∃ (x : D) (d' : D), x ∈ xs ∧ TL.run G (n + 3) i [.io d, a] = .ok x false (some d') ∧ Gen (K + 20) d' := by
  have l0 : 0 < xs.length := List.length_pos_iff.mpr x0
  obtain ⟨z, d', e, a0, b0, g'⟩ := rand_ok (G := G) (n := n) (i := r) (h := h) hR hH g hK (show (1 : Int) ≤ (xs.length : Int) by omega) (by rw [Int.natAbs_natCast]; exact Nat.lt_of_le_of_lt xl (by decide))
  obtain ⟨k, rfl⟩ := Int.eq_ofNat_of_zero_le a0
  have hk : k < xs.length := by omega
  refine ⟨xs[k], d', List.getElem_mem hk, ?_, g'⟩
  rw [TL.run_at hG]
  have w : wrOf G r = true := by unfold wrOf; rw [hR]; rfl
  generalize TL.run G (n + 2) = C at e ⊢
  have ix : L2.atI xs (k : Int) = some xs[k] := L2.atI_nat (List.getElem?_eq_getElem hk)
  rcases ha with rfl | rfl <;> simp -implicitDefEqProofs [fPick, runFn, shapeOk, Slot.rd, w, e, ix]
end
end TL
/-! TL36: trees held alone: how the tests compute. -/
namespace TL
open PySem
local instance : Plc := ⟨fun _ _ => False, fun _ _ => False⟩
theorem lrgOk_of {i j : Int} (h1 : -1000000 ≤ i) (h2 : i ≤ 1000000) (h3 : -1000000 ≤ j) (h4 : j ≤ 1000000) (l : (j - i).toNat ≤ 100000) : lrgOk i j = true := by
  unfold lrgOk
  rw [rngOk_int h1 h2, rngOk_int h3 h4, decide_eq_true (bigN l)]
  rfl
theorem immA_mem : ∀ {xs : List D}, immA xs = true → ∀ x ∈ xs, immD x = true
  | [], _, x, h => nomatch h
  | y :: ys, h, x, hx => by
    rw [immA, Bool.and_eq_true] at h
    rcases List.mem_cons.mp hx with rfl | hx
    · exact h.1
    · exact immA_mem h.2 x hx
theorem immA_of : ∀ {xs : List D}, (∀ x ∈ xs, immD x = true) → immA xs = true
  | [], _ => by rw [immA]
  | y :: ys, h => by rw [immA, h y List.mem_cons_self, immA_of fun x hx => h x (List.mem_cons_of_mem _ hx)]; rfl
theorem dep_le : ∀ {xs : List D} {x : D}, x ∈ xs → x.depth ≤ PyData.depthAll xs
  | y :: ys, x, h => by
    simp only [PyData.depthAll]
    rcases List.mem_cons.mp h with rfl | h
    · omega
    · have := dep_le h
      omega
theorem map_tt1 (xs : List D) : ((xs.filter fun _ => true).map fun _ => PyData.bool true) = List.replicate xs.length (.bool true) := by
  rw [filter_tt]
  induction xs with
  | nil => rfl
  | cons x r ih => rw [List.map_cons, ih, List.length_cons, List.replicate_succ]
section
variable {G : List Fn} {i : Nat}
theorem w_markA (hG : G[i]? = some (fMarkA i)) : wrOf G i = false := by unfold wrOf; rw [hG]; rfl
theorem w_markB (hG : G[i]? = some (fMarkB i)) : wrOf G i = false := by unfold wrOf; rw [hG]; rfl
theorem markImmA (hG : G[i]? = some (fMarkA i)) : ∀ (n : Nat) (d : D), immD d = true → d.depth < n → TL.run G n i [.sh d] = .ok (.bool true) false none
  | 0, d, _, h => absurd h (Nat.not_lt_zero _)
  | n + 1, d, hi, hd => by
    have ih := markImmA hG n
    rw [TL.run_at hG]
    have w := w_markA hG
    generalize TL.run G n = C at ih ⊢
    cases d with
    | none => simp -implicitDefEqProofs [fMarkA, runFn, shapeOk, Slot.rd, isTy, isD]
    | bool b => simp -implicitDefEqProofs [fMarkA, runFn, shapeOk, Slot.rd, isTy, isD]
    | int b => simp -implicitDefEqProofs [fMarkA, runFn, shapeOk, Slot.rd, isTy, isD]
    | str b => simp -implicitDefEqProofs [fMarkA, runFn, shapeOk, Slot.rd, isTy, isD]
    | list xs => rw [immD] at hi; cases hi
    | dict xs => rw [immD] at hi; cases hi
    | tuple xs =>
      rw [immD] at hi
      have F := lc_fin (vs := [2]) (tg := .nm 2) (rng := false) (ft := evTs C (wrOf G) .nil) (fx := ev C (wrOf G) (.call i (.cons (.b 2) .nil))) (p := fun _ => true) (h := fun _ => .bool true) (g := [.sh (.tuple xs), .un, .un]) (ds := xs) (ls := []) (fun d h => by
        refine ⟨[.sh (.tuple xs), .un, .sh d], rfl, rfl, fun _ => ⟨false, ?_⟩, rfl⟩
        have c := ih d (immA_mem hi d h) (by have := dep_le h; simp [PyData.depth] at hd; omega)
        simp -implicitDefEqProofs [w, c]) (fun z => by cases z)
      rw [map_tt1] at F
      have N := notin_tt xs.length
      simp -implicitDefEqProofs [fMarkA, runFn, shapeOk, Slot.rd, isTy, isD, F, N]
theorem markImmB (hG : G[i]? = some (fMarkB i)) : ∀ (n : Nat) (d : D), immD d = true → d.depth < n → TL.run G n i [.sh d] = .ok (.bool true) false none
  | 0, d, _, h => absurd h (Nat.not_lt_zero _)
  | n + 1, d, hi, hd => by
    have ih := markImmB hG n
    rw [TL.run_at hG]
    have w := w_markB hG
    generalize TL.run G n = C at ih ⊢
    cases d with
    | none => simp -implicitDefEqProofs [fMarkB, runFn, shapeOk, Slot.rd, isTy, isD]
    | bool b => simp -implicitDefEqProofs [fMarkB, runFn, shapeOk, Slot.rd, isTy, isD]
    | int b => simp -implicitDefEqProofs [fMarkB, runFn, shapeOk, Slot.rd, isTy, isD]
    | str b => simp -implicitDefEqProofs [fMarkB, runFn, shapeOk, Slot.rd, isTy, isD]
    | list xs => rw [immD] at hi; cases hi
    | dict xs => rw [immD] at hi; cases hi
    | tuple xs =>
      rw [immD] at hi
      have F := lc_fin (vs := [3]) (tg := .nm 3) (rng := false) (ft := evTs C (wrOf G) .nil) (fx := ev C (wrOf G) (.call i (.cons (.b 3) .nil))) (p := fun _ => true) (h := fun _ => .bool true) (g := [.sh (.tuple xs), .un, .un, .un]) (ds := xs) (ls := []) (fun d h => by
        refine ⟨[.sh (.tuple xs), .un, .un, .sh d], rfl, rfl, fun _ => ⟨false, ?_⟩, rfl⟩
        have c := ih d (immA_mem hi d h) (by have := dep_le h; simp [PyData.depth] at hd; omega)
        simp -implicitDefEqProofs [w, c]) (fun z => by cases z)
      rw [map_tt1] at F
      have N := notin_tt xs.length
      simp -implicitDefEqProofs [fMarkB, runFn, shapeOk, Slot.rd, isTy, isD, F, N]
theorem mark_badA (hG : G[i]? = some (fMarkA i)) (n : Nat) (x : D) (h : TL.run G n i [.sh x] = .bad) : TL.run G (n + 1) i [.sh (.tuple [x])] = .bad := by
  rw [TL.run_at hG]
  have w := w_markA hG
  generalize TL.run G n = C at h ⊢
  have F : finLc [2] (.nm 2) false (evTs C (wrOf G) .nil) (ev C (wrOf G) (.call i (.cons (.b 2) .nil))) ([x], []) [.sh (.tuple [x]), .un, .un] = .bad := by
    have e : ev C (wrOf G) (.call i (.cons (.b 2) .nil)) [.sh (.tuple [x]), .un, .sh x] = .bad := by
      simp -implicitDefEqProofs [w, h]
    generalize ev C (wrOf G) (.call i (.cons (.b 2) .nil)) = f at e ⊢
    simp -implicitDefEqProofs [finLc, lcLoop, e]
  simp -implicitDefEqProofs [fMarkA, runFn, shapeOk, Slot.rd, isTy, isD, F]
theorem mark_badB (hG : G[i]? = some (fMarkB i)) (n : Nat) (x : D) (h : TL.run G n i [.sh x] = .bad) : TL.run G (n + 1) i [.sh (.tuple [x])] = .bad := by
  rw [TL.run_at hG]
  have w := w_markB hG
  generalize TL.run G n = C at h ⊢
  have F : finLc [3] (.nm 3) false (evTs C (wrOf G) .nil) (ev C (wrOf G) (.call i (.cons (.b 3) .nil))) ([x], []) [.sh (.tuple [x]), .un, .un, .un] = .bad := by
    have e : ev C (wrOf G) (.call i (.cons (.b 3) .nil)) [.sh (.tuple [x]), .un, .un, .sh x] = .bad := by
      simp -implicitDefEqProofs [w, h]
    generalize ev C (wrOf G) (.call i (.cons (.b 3) .nil)) = f at e ⊢
    simp -implicitDefEqProofs [finLc, lcLoop, e]
  simp -implicitDefEqProofs [fMarkB, runFn, shapeOk, Slot.rd, isTy, isD, F]
theorem markLevA (hG : G[i]? = some (fMarkA i)) (n : Nat) (h : TL.run G n i [.sh nest3] ≠ .bad) : 3 < n := by
  have z : ∀ d, TL.run G 0 i [.sh d] = .bad := fun d => rfl
  match n, h with
  | 0, h => exact absurd (z _) h
  | 1, h => exact absurd (mark_badA hG 0 _ (z _)) h
  | 2, h => exact absurd (mark_badA hG 1 _ (mark_badA hG 0 _ (z _))) h
  | 3, h => exact absurd (mark_badA hG 2 _ (mark_badA hG 1 _ (mark_badA hG 0 _ (z _)))) h
  | n + 4, _ => omega
theorem markLevB (hG : G[i]? = some (fMarkB i)) (n : Nat) (h : TL.run G n i [.sh nest3] ≠ .bad) : 3 < n := by
  have z : ∀ d, TL.run G 0 i [.sh d] = .bad := fun d => rfl
  match n, h with
  | 0, h => exact absurd (z _) h
  | 1, h => exact absurd (mark_badB hG 0 _ (z _)) h
  | 2, h => exact absurd (mark_badB hG 1 _ (mark_badB hG 0 _ (z _))) h
  | 3, h => exact absurd (mark_badB hG 2 _ (mark_badB hG 1 _ (mark_badB hG 0 _ (z _)))) h
  | n + 4, _ => omega
end
/-! ### the steps of tell -/
section
variable {C : Calls} {wr : Nat → Bool} {g : Gv}
theorem imm_nest : immD nest3 = true := rfl
@[simp] theorem tellV_nil : tellV [] = some [] := rfl
@[simp] theorem tellV_cons (d : D) (own : Bool) (r : List Op) : tellV (.val d own :: r) = if okItem own d = true then (tellV r).map (d :: ·) else none := rfl
@[simp] theorem okItem_t (d : D) : okItem true d = flatD d := rfl
@[simp] theorem okItem_f (d : D) : okItem false d = immD d := rfl
theorem finDisp_e (os : List Op) : finDisp os g = match tellV os with
  | some ds => if ds.length ≤ sizeLine then .ok (.list ds) g else .bad
  | none => .bad := rfl
theorem finDisp_of {os : List Op} {ds : List D} (h : tellV os = some ds) (l : ds.length ≤ 100000) : finDisp os g = .ok (.list ds) g := by
  rw [finDisp_e, h]
  show (if ds.length ≤ sizeLine then _ else _) = _
  rw [if_pos (bigN l)]
theorem finOne_of {d : D} (h : flatD d = true) : finOne (.val d true) g = .ok d g := by
  show (if flatD d = true then _ else _) = _
  rw [if_pos h]
theorem rd_ok {i : Nat} {x : E} {r : List Tst} {d : D} {own : Bool} {g' : Gv} (h : ev C wr x ((frz [] g).set i (.sh d)) = .ok (.val (.bool false) own) g') : tstR C wr i (.rd x :: r) (some d) g = tstR C wr i r (some d) g := by
  show (match ev C wr x ((frz [] g).set i (.sh d)) with | .ok (.val (.bool false) _) _ => _ | _ => _) = _
  rw [h]
theorem mk_ok {i f : Nat} {r : List Tst} {d : D} {a : D} {own : Bool} {io : Option D} (h : C f [.sh nest3] = .ok a own io) (m : markD d = true) (k : d.depth ≤ 3) : tstR C wr i (.mk f :: r) (some d) g = tstR C wr i r none g := by
  show (match C f [.sh nest3] with | .bad => _ | _ => (if (markD d && decide (d.depth ≤ 3)) = true then _ else _)) = _
  rw [h, m, decide_eq_true k]
  rfl
theorem apD_of {k : Nat} {s : D} {ds zs : List D} (h : ds[k]? = some (.list zs)) (i : immD s = true) (l : zs.length ≤ 100000) : apD k s (some (.list ds)) = some (.list (ds.set k (.list (zs ++ [s])))) := by
  unfold apD
  simp only [h, i, decide_eq_true (Nat.lt_of_le_of_lt l (by decide : 100000 < sizeLine)), Bool.and_self, if_true]
theorem ap_ok {i k : Nat} {s : D} {r : List Tst} {st : Option D} {d : D} (h : apD k s st = some d) : tstR C wr i (.ap k s :: r) st g = tstR C wr i r (some d) g := by
  show (match apD k s st with | none => (Rs.bad : Rs (Option D)) | some d => tstR C wr i r (some d) g) = _
  rw [h]
theorem api_t {i k : Nat} {x : E} {s : D} {r : List Tst} {st : Option D} {d : D} {a : Op} {g' : Gv} (e : ev C wr x g = .ok a g') (t : tst a g' = some true) (h : apD k s st = some d) : tstR C wr i (.api x k s :: r) st g = tstR C wr i r (some d) g' := by
  show ((ev C wr x g).bind fun a g => br (tst a g) (match apD k s st with | none => (Rs.bad : Rs (Option D)) | some d => tstR C wr i r (some d) g) (tstR C wr i r st g)) = _
  rw [e, bind_okS, t, h]
  rfl
theorem api_f {i k : Nat} {x : E} {s : D} {r : List Tst} {st : Option D} {a : Op} {g' : Gv} (e : ev C wr x g = .ok a g') (t : tst a g' = some false) : tstR C wr i (.api x k s :: r) st g = tstR C wr i r st g' := by
  show ((ev C wr x g).bind fun a g => br (tst a g) (match apD k s st with | none => (Rs.bad : Rs (Option D)) | some d => tstR C wr i r (some d) g) (tstR C wr i r st g)) = _
  rw [e, bind_okS, t]
  rfl
theorem flat_of {xs : List D} (h : ∀ x ∈ xs, immD x = true) : flatD (.list xs) = true := immA_of h
theorem imm_int (i : Int) : immD (.int i) = true := rfl
theorem flat_ints (xs : List Int) : flatD (.list (xs.map .int)) = true := flat_of fun x hx => by
  obtain ⟨i, _, rfl⟩ := List.mem_map.mp hx
  rfl
theorem markA_of : ∀ {xs : List D}, (∀ x ∈ xs, markD x = true) → markA xs = true
  | [], _ => by rw [markA]
  | y :: ys, h => by rw [markA, h y List.mem_cons_self, markA_of fun x hx => h x (List.mem_cons_of_mem _ hx)]; rfl
theorem mark_imm {d : D} (h : immD d = true) : markD d = true := by
  cases d with
  | none => rfl
  | bool b => rfl
  | int b => rfl
  | str b => rfl
  | list xs => rw [immD] at h; cases h
  | dict xs => rw [immD] at h; cases h
  | tuple xs => rw [immD] at h; rw [markD]; exact h
/-- data whose equality with a text is told at once -/
theorem head_of {xs : List D} (q : eqOk (.list xs) = true) (h : ∀ x, xs.getLast? = some x → cmpD .Eq x (.str "marked") = some false) : headOk xs = true := by
  unfold headOk
  rw [ne_nilD xs q]
  cases e : xs.isEmpty with
  | true => rfl
  | false =>
    have ne : xs ≠ [] := fun z => by rw [z] at e; cases e
    have e2 := h _ (List.getLast?_eq_some_getLast ne)
    have e1 : idxD (.list xs) (.int (-1)) = some (xs.getLast ne) := by
      have l0 : 0 < xs.length := List.length_pos_iff.mpr ne
      show L2.atI xs (-1) = _
      unfold L2.atI
      have : L2.ixN xs.length (-1) = some (xs.length - 1) := by
        unfold L2.ixN
        rw [if_neg (by omega), if_pos (by omega)]
        congr 1
        omega
      rw [this]
      show xs[xs.length - 1]? = _
      rw [List.getElem?_eq_getElem (by omega), List.getLast_eq_getElem]
    simp only [Bool.not_false, e1, e2]
theorem mark_lst {xs : List D} (q : eqOk (.list xs) = true) (l : xs.length ≤ 100000) (h : ∀ x, xs.getLast? = some x → cmpD .Eq x (.str "marked") = some false) (m : ∀ x ∈ xs, markD x = true) : markD (.list xs) = true := by
  rw [markD, head_of q h, decide_eq_true (Nat.lt_of_le_of_lt l (by decide)), markA_of m]
  rfl
end
end TL
/-! TL37: helpers for the plain laws: a def's run by its body, exceptions. -/
namespace TL
open PySem
theorem run_of {G : List Fn} {n i : Nat} {F : Fn} {as : Gv} {r : An} (h : G[i]? = some F) (ok : (as.length == F.np && shapeOk F.w as) = true) (e : runFn (TL.run G n) (wrOf G) F as = r) : TL.run G (n + 1) i as = r := by
  rw [TL.run_at h, if_pos ok, e]
section
variable {C : Calls} {wr : Nat → Bool} {F : Fn} {as g g' : Gv} {d : D} {own : Bool} {io : Option D} {c : Nat} {fs : List D} {s : S} {r : Ss}
theorem run_fin (hb : exs C wr F.body (as ++ List.replicate (F.N.length - F.np) .un) = .ok (.ret d own) g') (hio : ioOf F.w g' = some io) : runFn C wr F as = .ok d own io := by
  unfold runFn
  rw [hb]
  simp only [hio]
theorem run_fin0 (hb : exs C wr F.body (as ++ List.replicate (F.N.length - F.np) .un) = .ok .next g') (hio : ioOf F.w g' = some io) : runFn C wr F as = .ok .none false io := by
  unfold runFn
  rw [hb]
  simp only [hio]
theorem run_exc (hb : exs C wr F.body (as ++ List.replicate (F.N.length - F.np) .un) = .ex c fs g') (hio : ioOf F.w g' = some io) : runFn C wr F as = .ex c fs io := by
  unfold runFn
  rw [hb]
  simp only [hio]
theorem exs_exc (h : ex C wr s g = .ex c fs g') : exs C wr (.cons s r) g = .ex c fs g' := by
  rw [exs_cons, h]
  rfl
end
/-- a loop whose turns all go on, by an invariant of the frame -/
theorem for_inv {tg : Tg} {body : Gv → Rs Fl} (I : Gv → Prop) : ∀ (ds : List D) (g : Gv), (∀ d ∈ ds, ∀ g, I g → ∃ g1 g2, bindTg tg d g = some g1 ∧ (body g1 = .ok .next g2 ∨ body g1 = .ok .cont g2) ∧ I g2) → I g → ∃ g', forLoop tg body ds g = .ok .next g' ∧ I g'
  | [], g, _, i => ⟨g, rfl, i⟩
  | d :: ds, g, h, i => by
    obtain ⟨g1, g2, b, e, i2⟩ := h d List.mem_cons_self g i
    obtain ⟨g', e', i'⟩ := for_inv I ds g2 (fun x hx => h x (List.mem_cons_of_mem _ hx)) i2
    refine ⟨g', ?_, i'⟩
    rw [forLoop_cons, b]
    rcases e with e | e
    · show (body g1).bind _ = _
      rw [e]
      exact e'
    · show (body g1).bind _ = _
      rw [e]
      exact e'
/-- the same, the turns counted -/
theorem for_ix {tg : Tg} {body : Gv → Rs Fl} (I : Nat → Gv → Prop) : ∀ (ds : List D) (k : Nat) (g : Gv), (∀ d ∈ ds, ∀ j g, k ≤ j → j < k + ds.length → I j g → ∃ g1 g2, bindTg tg d g = some g1 ∧ (body g1 = .ok .next g2 ∨ body g1 = .ok .cont g2) ∧ I (j + 1) g2) → I k g → ∃ g', forLoop tg body ds g = .ok .next g' ∧ I (k + ds.length) g'
  | [], k, g, _, i => ⟨g, rfl, i⟩
  | d :: ds, k, g, h, i => by
    obtain ⟨g1, g2, b, e, i2⟩ := h d List.mem_cons_self k g (Nat.le_refl _) (by rw [List.length_cons]; omega) i
    obtain ⟨g', e', i'⟩ := for_ix I ds (k + 1) g2 (fun x hx j g h1 h2 => h x (List.mem_cons_of_mem _ hx) j g (by omega) (by rw [List.length_cons]; omega)) i2
    refine ⟨g', ?_, by rw [List.length_cons, show k + (ds.length + 1) = k + 1 + ds.length by omega]; exact i'⟩
    rw [forLoop_cons, b]
    rcases e with e | e
    · show (body g1).bind _ = _
      rw [e]
      exact e'
    · show (body g1).bind _ = _
      rw [e]
      exact e'
theorem ne_selfL {ds : List D} (h : eqOk (.list ds) = true) : cmpD .NotEq (.list ds) (.list ds) = some false := ne_self h
theorem ne_selfT {ds : List D} (h : eqOk (.tuple ds) = true) : cmpD .NotEq (.tuple ds) (.tuple ds) = some false := ne_self h
/-! ### equality of data, to be computed -/
mutual
def eqT : D → D → Bool
  | .none, .none => true
  | .bool a, .bool b => a == b
  | .int a, .int b => decide (a = b)
  | .str a, .str b => decide (a = b)
  | .list a, .list b => eqTs a b
  | .tuple a, .tuple b => eqTs a b
  | .dict a, .dict b => eqTk a b
  | _, _ => false
def eqTs : List D → List D → Bool
  | [], [] => true
  | a :: as, b :: bs => eqT a b && eqTs as bs
  | _, _ => false
def eqTk : List (D × D) → List (D × D) → Bool
  | [], [] => true
  | (a, c) :: as, (b, d) :: bs => eqT a b && eqT c d && eqTk as bs
  | _, _ => false
end
mutual
theorem eqT_ok : ∀ a b : D, eqT a b = true → a = b
  | .none, b, h => by cases b <;> first | rfl | (simp [eqT] at h; done)
  | .bool x, b, h => by cases b <;> simp [eqT] at h; rw [h]
  | .int x, b, h => by cases b <;> simp [eqT] at h; rw [h]
  | .str x, b, h => by cases b <;> simp [eqT] at h; rw [h]
  | .list x, b, h => by cases b <;> simp [eqT] at h; rw [eqTs_ok _ _ h]
  | .tuple x, b, h => by cases b <;> simp [eqT] at h; rw [eqTs_ok _ _ h]
  | .dict x, b, h => by cases b <;> simp [eqT] at h; rw [eqTk_ok _ _ h]
theorem eqTs_ok : ∀ a b : List D, eqTs a b = true → a = b
  | [], b, h => by cases b <;> first | rfl | (simp [eqTs] at h; done)
  | x :: xs, b, h => by
    cases b with
    | nil => simp [eqTs] at h
    | cons y ys =>
      simp only [eqTs, Bool.and_eq_true] at h
      rw [eqT_ok _ _ h.1, eqTs_ok _ _ h.2]
theorem eqTk_ok : ∀ a b : List (D × D), eqTk a b = true → a = b
  | [], b, h => by cases b <;> first | rfl | (simp [eqTk] at h; done)
  | (x, u) :: xs, b, h => by
    cases b with
    | nil => simp [eqTk] at h
    | cons y ys =>
      obtain ⟨y, v⟩ := y
      simp only [eqTk, Bool.and_eq_true] at h
      rw [eqT_ok _ _ h.1.1, eqT_ok _ _ h.1.2, eqTk_ok _ _ h.2]
end
/-- a call gives just this -/
def givesB (r : An) (d : D) (own : Bool) : Bool :=
  match r with
  | .ok e o none => eqT e d && (o == own)
  | _ => false
theorem gives_ok {r : An} {d : D} {own : Bool} (h : givesB r d own = true) : r = .ok d own none := by
  unfold givesB at h
  split at h
  · rw [Bool.and_eq_true] at h
    rw [eqT_ok _ _ h.1, eq_of_beq h.2]
  · cases h
/-- a call raises just this -/
def raisesB (r : An) (c : Nat) (d : D) : Bool :=
  match r with
  | .ex k [e] none => decide (k = c) && eqT e d
  | _ => false
theorem raises_ok {r : An} {c : Nat} {d : D} (h : raisesB r c d = true) : r = .ex c [d] none := by
  unfold raisesB at h
  split at h
  · rw [Bool.and_eq_true] at h
    rw [eqT_ok _ _ h.2, of_decide_eq_true h.1]
  · cases h
end TL
/-! TLZ: the exception classes of a program, by facts that the kernel computes. -/
namespace TL
open PySem PySem.Spec PyProof.Rows L2
def iniOk (b : List Stmt) : Bool :=
  match b with
  | [.Expr (.Call (.Attribute (.Call (.Name s1 _) [] [] _) s2 p2) [.Name s3 _] [] p4) _, .Assign [.Attribute (.Name s4 _) s5 _] (.Name s6 _) _] =>
    decide (s1 = ("super" : Str)) && decide (s2 = ("__init__" : Str)) && decide (s3 = ("value" : Str)) && decide (s4 = ("self" : Str)) && decide (s5 = ("value" : Str)) && decide (s6 = ("value" : Str)) && (p2.endLine == p4.line)
  | _ => false
theorem iniOk_inv {b : List Stmt} (h : iniOk b = true) : ∃ p0 p1 p2 p3 p4 p5 p6 p7 p8 p9 : Pos, (p2.endLine == p4.line) = true ∧
    b = [.Expr (.Call (.Attribute (.Call (.Name "super" p0) [] [] p1) "__init__" p2) [.Name "value" p3] [] p4) p5, .Assign [.Attribute (.Name "self" p6) "value" p7] (.Name "value" p8) p9] := by
  unfold iniOk at h
  split at h
  · simp only [Bool.and_eq_true, decide_eq_true_eq] at h
    obtain ⟨⟨⟨⟨⟨⟨h1, h2⟩, h3⟩, h4⟩, h5⟩, h6⟩, h7⟩ := h
    subst h1 h2 h3 h4 h5 h6
    exact ⟨_, _, _, _, _, _, _, _, _, _, h7, rfl⟩
  · cases h
def iniSc (s : Scope) : Bool :=
  decide (s.kind = .function) && !s.isCoroutine && !s.isGenerator && decide (s.names.lookup ("self" : Str) = some .local) && decide (s.names.lookup ("value" : Str) = some .local) && decide (s.names.lookup ("__class__" : Str) = some .free) &&
    decide (s.names.lookup ("super" : Str) = some .globalImplicit) && s.names.all (fun x => decide (x.2 ≠ .cell)) && s.names.all (fun x => decide (x.2 ≠ .free) || decide (x.1 = ("__class__" : Str)))
theorem iniSc_ok {s : Scope} (h : iniSc s = true) : IniScope s := by
  unfold iniSc at h
  simp only [Bool.and_eq_true, decide_eq_true_eq, Bool.not_eq_true', List.all_eq_true, Bool.or_eq_true] at h
  obtain ⟨⟨⟨⟨⟨⟨⟨⟨h1, h2⟩, h3⟩, h4⟩, h5⟩, h6⟩, h7⟩, h8⟩, h9⟩ := h
  exact ⟨h1, h2, h3, h4, h5, h6, h7, h8, fun x hx e => (h9 x hx).resolve_left fun z => z e⟩
/-- what is asked of one class -/
def clB (K : PySem.W.Frag) (D fI C : Addr) : Bool :=
  decide (PySem.W.findIn K (.ref C) "__getattribute__" = some (some (.builtin "BaseException.__getattribute__"))) && decide (PySem.W.findIn K (.ref C) "__getattr__" = some none) && decide (PySem.W.subIn K (.ref C) (.type "BaseException") = some true) && PySem.W.hasDictIn K C &&
    decide (PySem.W.findIn K (.ref C) "__class__" = some (some (.builtin "object.__class__"))) && decide (PySem.W.specialIn K (.builtin "object.__class__") "__get__" = some (some (.builtin "getset_descriptor.__get__"))) && decide (PySem.W.takesIn K (.builtin "object.__class__") = some true) &&
    decide (PySem.W.mroIn K C (.type "object") = some true) && decide (PySem.W.findIn K (.ref C) "value" = some none) && decide (PySem.W.kitOne K (.ref C) (.type "ValueError") = some true) &&
    decide (PySem.W.findIn K (.ref C) "__setattr__" = some (some (.builtin "object.__setattr__"))) && decide (PySem.W.typeIn K (.ref C) = some (.type "type")) && PySem.W.keepIn K (.ref C) &&
    decide (PySem.W.mroIn K C (.ref D) = some true) && decide (PySem.W.ks_superIn K C D "__init__" = some (some (.builtin "ValueError.__init__"))) && decide (PySem.W.subIn K (.ref C) (.type "ValueError") = some true) && decide (PySem.W.findIn K (.ref C) "__init__" = some (some (.ref fI)))
def nonB (K : PySem.W.Frag) (C : Addr) : Bool := [K7.non, .bl, .int, .str, .lst, .tup, .dct].all fun t => decide (PySem.W.kitOne K (.type t.name) (.ref C) = some false)
def ExcAt (K : PySem.W.Frag) (C : Addr) : Prop := ∃ nm q N bs bm sn sub ab col dd k0 k1 k2 k3 k5, K.lookup C = some (excClassObj nm q C N bs bm true sn sub ab col dd k0 k1 k2 k3 k5 "ValueError.__new__") ∧ PySem.HandSPX.refsVE bm = true
def excB (K : PySem.W.Frag) (C : Addr) : Bool :=
  match K.lookup C with
  | some ⟨.type t, _, .cls cd, sl⟩ => t == "type" && (match cd.mro with | .ref c :: bm => c == C && PySem.HandSPX.refsVE bm | _ => false) && cd.hasDict && !cd.hasDel && (match sl.toList with | [_, _, _, _, some (.builtin n), _] => n == "ValueError.__new__" | _ => false)
  | _ => false
theorem excB_ok {K : PySem.W.Frag} {C : Addr} (h : excB K C = true) : ExcAt K C := by
  unfold excB at h
  split at h
  · rename_i t dd cd sl e
    obtain ⟨nm, bs, mro, ns, qn, hd, sn, sb, ab, col, del⟩ := cd
    simp only [Bool.and_eq_true, beq_iff_eq, Bool.not_eq_true'] at h
    obtain ⟨⟨⟨⟨h1, h2⟩, h3⟩, h4⟩, h5⟩ := h
    subst h1 h3 h4
    split at h2
    · rename_i c bm
      simp only [Bool.and_eq_true, beq_iff_eq] at h2
      obtain ⟨rfl, h2⟩ := h2
      split at h5
      · rename_i k0 k1 k2 k3 n k5 es
        have h5 := eq_of_beq h5
        subst h5
        refine ⟨nm, qn, ns, bs, bm, sn, sb, ab, col, dd, k0, k1, k2, k3, k5, ?_, h2⟩
        rw [e]
        have : sl = #[k0, k1, k2, k3, some (.builtin "ValueError.__new__"), k5] := Array.ext' (by simpa using es)
        rw [this]
      · cases h5
    · cases h2
  · cases h
def clAll (K : PySem.W.Frag) (D fI : Addr) (l : List (List Nat × Nat × Addr)) : Bool :=
  l.all fun p => clB K D fI p.2.2 && (nonB K p.2.2 && excB K p.2.2) && l.all fun q => decide (PySem.W.exmOne K (.ref q.2.2) (.ref p.2.2) = some (p.1.contains q.2.1)) && decide (PySem.W.kitOne K (.ref q.2.2) (.ref p.2.2) = some (p.1.contains q.2.1))
abbrev plcOf (G : List Fn) (mg : Str → Option Value) : Plc := ⟨fun i a => ∃ F, G[i]? = some F ∧ F.kc = none ∧ mg F.name = some (.ref a), fun i C => ∃ F, G[i]? = some F ∧ F.cl.isSome = true ∧ mg F.name = some (.ref C)⟩
section
variable {P : Program} {K : PySem.W.Frag} {mg : Str → Option Value} {G : List Fn} {D fI : Addr} {l : List (List Nat × Nat × Addr)}
/-- where the classes stand -/
def ClTab (G : List Fn) (mg : Str → Option Value) (l : List (List Nat × Nat × Addr)) : Prop := ∀ (i : Nat) (F : Fn) (cs : List Nat), G[i]? = some F → F.cl = some cs → ∃ C, (cs, i, C) ∈ l ∧ mg F.name = some (.ref C)
theorem cl_at (tab : ClTab G mg l) {i : Nat} {F : Fn} {cs : List Nat} {C : Addr} (h1 : G[i]? = some F) (h2 : F.cl = some cs) (h3 : mg F.name = some (.ref C)) : (cs, i, C) ∈ l := by
  obtain ⟨C', m, e⟩ := tab i F cs h1 h2
  rw [h3] at e
  cases e
  exact m
theorem cl_facts (h : clAll K D fI l = true) {cs : List Nat} {i : Nat} {C : Addr} (m : (cs, i, C) ∈ l) : clB K D fI C = true ∧ (nonB K C = true ∧ excB K C = true) ∧ ∀ cs' j C', (cs', j, C') ∈ l → PySem.W.exmOne K (.ref C') (.ref C) = some (cs.contains j) ∧ PySem.W.kitOne K (.ref C') (.ref C) = some (cs.contains j) := by
  have q := List.all_eq_true.mp h _ m
  simp only [Bool.and_eq_true] at q
  obtain ⟨⟨q1, q2⟩, q3⟩ := q
  refine ⟨q1, q2, fun cs' j C' m' => ?_⟩
  have z := List.all_eq_true.mp q3 _ m'
  simp only [Bool.and_eq_true, decide_eq_true_eq] at z
  exact z
theorem exk_of {C : Addr} (h : clB K D fI C = true) : ExK K C := by
  unfold clB at h
  simp only [Bool.and_eq_true, decide_eq_true_eq] at h
  obtain ⟨⟨⟨⟨⟨⟨⟨⟨⟨⟨⟨⟨⟨⟨⟨⟨h1, h2⟩, h3⟩, h4⟩, h5⟩, h6⟩, h7⟩, h8⟩, h9⟩, h10⟩, h11⟩, h12⟩, h13⟩, h14⟩, h15⟩, h16⟩, h17⟩ := h
  exact ⟨⟨h1, h2, h3, h4, h5, h6, h7, h8⟩, ⟨h1, h2, h3, h4⟩, h9, h10⟩
theorem cav_ok (tab : ClTab G mg l) (h : clAll K D fI l = true) (i : Nat) (C : Addr) (ca : (plcOf G mg).ca i C) : ExK K C := by
  obtain ⟨F, h1, h2, h3⟩ := ca
  obtain ⟨cs, h2⟩ := Option.isSome_iff_exists.mp h2
  exact exk_of (cl_facts h (cl_at tab h1 h2 h3)).1
theorem cls_ok (tab : ClTab G mg l) (h : clAll K D fI l = true) (tI : PySem.W.typeIn K (.ref fI) = some (.type "function")) {fd : FuncData} (hb : Binds K fd ["self", "value"] []) {qual : Str} {params : Arguments} {body : List Stmt} {scope : Scope} {cc cda : Addr}
    (Z : IniK K P mg qual params body scope D fI cc cda fd) (hs : iniSc scope = true) (hbd : iniOk body = true) (i : Nat) (F : Fn) (cs : List Nat) (h1 : G[i]? = some F) (h2 : F.cl = some cs) :
    ∃ C, mg F.name = some (.ref C) ∧ (plcOf G mg).ca i C ∧ @ClsK (plcOf G mg) K C cs ∧ RseB P K mg C := by
  obtain ⟨C, m, e⟩ := tab i F cs h1 h2
  obtain ⟨q1, ⟨q2, qx⟩, q3⟩ := cl_facts h m
  refine ⟨C, e, ⟨F, h1, by rw [h2]; rfl, e⟩, ?_, ?_⟩
  · refine @ClsK.mk (plcOf G mg) K C cs (fun j D' ca => ?_) (fun j D' ca => ?_) fun t => ?_
    · obtain ⟨F', j1, j2, j3⟩ := ca
      obtain ⟨cs', j2⟩ := Option.isSome_iff_exists.mp j2
      exact (q3 _ _ _ (cl_at tab j1 j2 j3)).1
    · obtain ⟨F', j1, j2, j3⟩ := ca
      obtain ⟨cs', j2⟩ := Option.isSome_iff_exists.mp j2
      exact (q3 _ _ _ (cl_at tab j1 j2 j3)).2
    · have := List.all_eq_true.mp q2 t (by cases t <;> simp)
      exact of_decide_eq_true this
  · have q1' := q1
    unfold clB at q1
    simp only [Bool.and_eq_true, decide_eq_true_eq] at q1
    obtain ⟨⟨⟨⟨⟨⟨⟨⟨⟨⟨⟨⟨⟨⟨⟨⟨h1, h2⟩, h3⟩, h4⟩, h5⟩, h6⟩, h7⟩, h8⟩, h9⟩, h10⟩, h11⟩, h12⟩, h13⟩, h14⟩, h15⟩, h16⟩, h17⟩ := q1
    obtain ⟨p0, p1, p2, p3, p4, p5, p6, p7, p8, p9, hl, eb⟩ := iniOk_inv hbd
    exact ⟨D, fI, fd, ⟨excB_ok qx, h11, h3, h12, h13⟩, ⟨h14, h15, h16⟩, h9, h17, tI, hb, qual, params, body, scope, cc, cda, p0, p1, p2, p3, p4, p5, p6, p7, p8, p9, iniSc_ok hs, Z, hl, eb⟩
end
end TL
/-! TL38: shown text has proper code points. -/
namespace TL
open PySem
theorem chN (c : Char) : c.toNat < 0x110000 := by
  have h := c.valid
  unfold UInt32.isValidChar Nat.isValidChar at h
  show c.val.toNat < _
  rcases h with h | ⟨_, h⟩
  · omega
  · exact h
theorem ok_iff {x : Str} : PyData.strOk x = true ↔ ∀ c ∈ x.cps.toList, c < 0x110000 := by
  unfold PyData.strOk
  rw [← Array.all_toList, List.all_eq_true]
  simp
theorem strOk_ofS (s : String) : PyData.strOk (Str.ofString s) = true := by
  rw [Str.ofString_eq_toList, ok_iff]
  intro c hc
  simp only [List.mem_map] at hc
  obtain ⟨a, _, rfl⟩ := hc
  exact chN a
theorem strOk_app {a b : Str} (ha : PyData.strOk a = true) (hb : PyData.strOk b = true) : PyData.strOk (a ++ b) = true := by
  rw [ok_iff] at ha hb ⊢
  intro c hc
  have e : (a ++ b).cps.toList = a.cps.toList ++ b.cps.toList := by
    show (a.cps ++ b.cps).toList = _
    simp
  rw [e] at hc
  rcases List.mem_append.mp hc with h | h
  · exact ha c h
  · exact hb c h
theorem dig_lt (n : Nat) : ∀ x ∈ (Nat.toDigits 16 n).map Char.toNat, x < 0x110000 := fun x hx => by
  obtain ⟨c, _, rfl⟩ := List.mem_map.mp hx
  exact chN c
theorem reprChar_ok {q c : Nat} (hc : c < 0x110000) : ∀ x ∈ Builtin.Str.reprChar q c, x < 0x110000 := by
  intro x hx
  unfold Builtin.Str.reprChar at hx
  have hex : ∀ w : Nat, x ∈ List.replicate (w - ((Nat.toDigits 16 c).map Char.toNat).length) 48 ++ (Nat.toDigits 16 c).map Char.toNat → x < 0x110000 := fun w h => by
    rcases List.mem_append.mp h with h | h
    · rw [(List.mem_replicate.mp h).2]; decide
    · exact dig_lt c x h
  dsimp only at hx
  repeat' split at hx
  all_goals first
    | (simp only [List.mem_cons, List.not_mem_nil, or_false] at hx; rcases hx with rfl | rfl <;> first | decide | exact hc; done)
    | (rw [List.mem_singleton.mp hx]; exact hc)
    | (rcases List.mem_append.mp hx with hx | hx
       · simp only [List.mem_cons, List.not_mem_nil, or_false] at hx; rcases hx with rfl | rfl <;> decide
       · exact hex _ hx)
theorem reprText_ok {x : Str} (h : PyData.strOk x = true) : PyData.strOk (reprText x) = true := by
  rw [ok_iff] at h ⊢
  have q : reprQuote x < 0x110000 := by unfold reprQuote; split <;> decide
  have go : ∀ (l : List Nat) (acc : Array Nat), (∀ c ∈ l, c < 0x110000) → (∀ c ∈ acc.toList, c < 0x110000) → ∀ c ∈ (l.foldl (fun out c => out ++ (Builtin.Str.reprChar (reprQuote x) c).toArray) acc).toList, c < 0x110000 := by
    intro l
    induction l with
    | nil => exact fun acc _ h => h
    | cons a r ih =>
      intro acc h1 h2
      rw [List.foldl_cons]
      refine ih _ (fun c hc => h1 c (List.mem_cons_of_mem _ hc)) fun c hc => ?_
      rw [Array.toList_append] at hc
      rcases List.mem_append.mp hc with hc | hc
      · exact h2 c hc
      · exact reprChar_ok (h1 a List.mem_cons_self) c (by simpa using hc)
  intro c hc
  unfold reprText at hc
  simp only [Array.toList_push] at hc
  rcases List.mem_append.mp hc with hc | hc
  · rw [← Array.foldl_toList] at hc
    exact go _ _ h (fun c hc => by
      have : c = reprQuote x := by simpa using hc
      rw [this]; exact q) c hc
  · rw [List.mem_singleton.mp hc]; exact q
theorem join_ok {s : Str} (hs : PyData.strOk s = true) : ∀ l : List Str, (∀ x ∈ l, PyData.strOk x = true) → PyData.strOk (Str.join s l) = true
  | [], _ => by
    show PyData.strOk Str.empty = true
    decide +kernel
  | [x], h => h x List.mem_cons_self
  | x :: y :: r, h => strOk_app (strOk_app (h x List.mem_cons_self) hs) (join_ok hs (y :: r) fun z hz => h z (List.mem_cons_of_mem _ hz))
theorem textFrom_ok : ∀ (l : List Str) (k : Nat) (acc : Str), PyData.strOk acc = true → (∀ x ∈ l, PyData.strOk x = true) → PyData.strOk (textFrom k acc l) = true
  | [], _, _, h, _ => h
  | t :: ts, k, acc, h, hl => textFrom_ok ts (k + 1) _ (strOk_app (strOk_app h (strOk_ofS _)) (hl t List.mem_cons_self)) fun z hz => hl z (List.mem_cons_of_mem _ hz)
mutual
/-- all texts in it have proper code points -/
def txD : D → Bool
  | .none => true
  | .bool _ => true
  | .int _ => true
  | .str x => PyData.strOk x
  | .list xs => txA xs
  | .tuple xs => txA xs
  | .dict kvs => txK kvs
def txA : List D → Bool
  | [] => true
  | x :: r => txD x && txA r
def txK : List (D × D) → Bool
  | [] => true
  | (k, v) :: r => txD k && txD v && txK r
end
mutual
theorem shown_ok : ∀ d : D, txD d = true → PyData.strOk d.shown = true
  | .none, _ => by decide +kernel
  | .bool b, _ => by cases b <;> decide +kernel
  | .int i, _ => strOk_ofS _
  | .str x, h => reprText_ok h
  | .list xs, h => strOk_app (textFrom_ok _ _ _ (strOk_ofS _) (shownA_ok xs h)) (strOk_ofS _)
  | .tuple xs, h => strOk_app (strOk_app (strOk_ofS _) (join_ok (strOk_ofS _) _ (shownA_ok xs h))) (strOk_ofS _)
  | .dict kvs, h => strOk_app (strOk_app (strOk_ofS _) (join_ok (strOk_ofS _) _ (shownK_ok kvs h))) (strOk_ofS _)
theorem shownA_ok : ∀ ds : List D, txA ds = true → ∀ x ∈ PyData.shownAll ds, PyData.strOk x = true
  | [], _, x, hx => by cases hx
  | d :: ds, h, x, hx => by
    have h' : (txD d && txA ds) = true := h
    rw [Bool.and_eq_true] at h'
    rcases List.mem_cons.mp hx with rfl | hx
    · exact shown_ok d h'.1
    · exact shownA_ok ds h'.2 x hx
theorem shownK_ok : ∀ ds : List (D × D), txK ds = true → ∀ x ∈ PyData.shownKv ds, PyData.strOk x = true
  | [], _, x, hx => by cases hx
  | (k, v) :: ds, h, x, hx => by
    have h' : (txD k && txD v && txK ds) = true := h
    rw [Bool.and_eq_true, Bool.and_eq_true] at h'
    rcases List.mem_cons.mp hx with rfl | hx
    · exact strOk_app (strOk_app (shown_ok k h'.1.1) (strOk_ofS _)) (shown_ok v h'.1.2)
    · exact shownK_ok ds h'.2 x hx
end
end TL
namespace K04
open PySem TL
def f0 : Fn := { name := "is_whole", N := ["value"], np := 1, w := false, kw := [], kp := [], body := (.cons (.ret (.and (.cons (.isi (.b 0) .int) (.cons (.not (.isi (.b 0) .bool)) .nil)))) .nil) }
def f1 : Fn := { name := "check_list", N := ["value"], np := 1, w := false, kw := [], kp := [], body := (.cons (.ife (.not (.isi (.b 0) .list)) (.cons (.rse 26 (.v 0)) .nil) .nil) .nil) }
def f2 : Fn := { name := "common_of", N := ["one", "other"], np := 2, w := false, kw := [], kp := [], body := (.cons (.parO [0, 1] (.cons (.bi .abs (.cons (.b 0) .nil)) (.cons (.bi .abs (.cons (.b 1) .nil)) .nil))) (.cons (.wh (.cmp .Gt (.b 1) (.k (.int 0))) (.cons (.parO [0, 1] (.cons (.v 1) (.cons (.bin .Mod (.b 0) (.b 1)) .nil))) .nil)) (.cons (.ret (.mv 0)) .nil))) }
def f3 : Fn := { name := "is_fraction", N := ["value"], np := 1, w := false, kw := [], kp := [], body := (.cons (.ife (.or (.cons (.not (.isi (.b 0) .tuple)) (.cons (.cmp .NotEq (.bi .len (.cons (.b 0) .nil)) (.k (.int 2))) (.cons (.not (.call 0 (.cons (.idx (.b 0) (.k (.int 0))) .nil))) (.cons (.not (.call 0 (.cons (.idx (.b 0) (.k (.int 1))) .nil))) .nil))))) (.cons (.ret (.k (.bool false))) .nil) .nil) (.cons (.ret (.and (.cons (.cmp .GtE (.idx (.b 0) (.k (.int 1))) (.k (.int 1))) (.cons (.cmp .Eq (.call 2 (.cons (.idx (.b 0) (.k (.int 0))) (.cons (.idx (.b 0) (.k (.int 1))) .nil))) (.k (.int 1))) .nil)))) .nil)) }
def f4 : Fn := { name := "check_fraction", N := ["value"], np := 1, w := false, kw := [], kp := [], body := (.cons (.ife (.not (.call 3 (.cons (.b 0) .nil))) (.cons (.rse 25 (.v 0)) .nil) .nil) .nil) }
def f5 : Fn := { name := "lowest_of", N := ["above", "below", "part"], np := 2, w := false, kw := [], kp := [], body := (.cons (.set 2 (.call 2 (.cons (.v 0) (.cons (.v 1) .nil)))) (.cons (.ife (.cmp .Lt (.b 1) (.k (.int 0))) (.cons (.set 2 (.bin .Sub (.k (.int 0)) (.b 2))) .nil) .nil) (.cons (.ret (.tup (.cons (.bin .FloorDiv (.b 0) (.b 2)) (.cons (.bin .FloorDiv (.b 1) (.b 2)) .nil)))) .nil))) }
def f6 : Fn := { name := "fraction_of", N := ["above", "below"], np := 2, w := false, kw := [], kp := [], body := (.cons (.ife (.not (.call 0 (.cons (.b 0) .nil))) (.cons (.rse 24 (.v 0)) .nil) .nil) (.cons (.ife (.or (.cons (.not (.call 0 (.cons (.b 1) .nil))) (.cons (.cmp .Eq (.b 1) (.k (.int 0))) .nil))) (.cons (.rse 24 (.v 1)) .nil) .nil) (.cons (.ret (.call 5 (.cons (.v 0) (.cons (.v 1) .nil)))) .nil))) }
def f7 : Fn := { name := "plus_of", N := ["one", "other"], np := 2, w := false, kw := [], kp := [], body := (.cons (.ret (.call 5 (.cons (.bin .Add (.bin .Mult (.idx (.b 0) (.k (.int 0))) (.idx (.b 1) (.k (.int 1)))) (.bin .Mult (.idx (.b 1) (.k (.int 0))) (.idx (.b 0) (.k (.int 1))))) (.cons (.bin .Mult (.idx (.b 0) (.k (.int 1))) (.idx (.b 1) (.k (.int 1)))) .nil)))) .nil) }
def f8 : Fn := { name := "times_of", N := ["one", "other"], np := 2, w := false, kw := [], kp := [], body := (.cons (.ret (.call 5 (.cons (.bin .Mult (.idx (.b 0) (.k (.int 0))) (.idx (.b 1) (.k (.int 0)))) (.cons (.bin .Mult (.idx (.b 0) (.k (.int 1))) (.idx (.b 1) (.k (.int 1)))) .nil)))) .nil) }
def f9 : Fn := { name := "less_than", N := ["one", "other"], np := 2, w := false, kw := [], kp := [], body := (.cons (.ret (.cmp .Lt (.bin .Mult (.idx (.b 0) (.k (.int 0))) (.idx (.b 1) (.k (.int 1)))) (.bin .Mult (.idx (.b 1) (.k (.int 0))) (.idx (.b 0) (.k (.int 1)))))) .nil) }
def f10 : Fn := { name := "check_fractions", N := ["fractions", "item"], np := 1, w := false, kw := [], kp := [], body := (.cons (.ex (.call 1 (.cons (.v 0) .nil))) (.cons (.for_ (.nm 1) (.seq (.b 0)) (.cons (.ex (.call 4 (.cons (.v 1) .nil))) .nil)) .nil)) }
def f11 : Fn := { name := "sum_of", N := ["fractions", "total", "item"], np := 1, w := false, kw := [], kp := [], body := (.cons (.ex (.call 10 (.cons (.v 0) .nil))) (.cons (.set 1 (.tup (.cons (.k (.int 0)) (.cons (.k (.int 1)) .nil)))) (.cons (.for_ (.nm 2) (.seq (.b 0)) (.cons (.set 1 (.call 7 (.cons (.b 1) (.cons (.b 2) .nil)))) .nil)) (.cons (.ret (.mv 1)) .nil)))) }
def f12 : Fn := { name := "product_of", N := ["fractions", "total", "item"], np := 1, w := false, kw := [], kp := [], body := (.cons (.ex (.call 10 (.cons (.v 0) .nil))) (.cons (.set 1 (.tup (.cons (.k (.int 1)) (.cons (.k (.int 1)) .nil)))) (.cons (.for_ (.nm 2) (.seq (.b 0)) (.cons (.set 1 (.call 8 (.cons (.b 1) (.cons (.b 2) .nil)))) .nil)) (.cons (.ret (.mv 1)) .nil)))) }
def f13 : Fn := { name := "is_less", N := ["one", "other"], np := 2, w := false, kw := [], kp := [], body := (.cons (.ex (.call 4 (.cons (.v 0) .nil))) (.cons (.ex (.call 4 (.cons (.v 1) .nil))) (.cons (.ret (.call 9 (.cons (.b 0) (.cons (.b 1) .nil)))) .nil))) }
def f14 : Fn := { name := "_law_hash", N := ["seed", "index", "mixed"], np := 2, w := false, kw := [], kp := [], body := (.cons (.set 2 (.bin .Mod (.bi .int (.cons (.bin .Add (.bin .Add (.bin .Add (.bin .Mult (.b 0) (.k (.int 1140671))) (.bin .Mult (.bin .Mult (.k (.int 27644437)) (.b 1)) (.b 1))) (.bin .Mult (.k (.int 131)) (.b 1))) (.k (.int 19))) .nil)) (.k (.int 2147483629)))) (.cons (.set 2 (.bin .Mod (.bi .int (.cons (.bin .Add (.bin .Add (.bin .Mult (.b 2) (.b 2)) (.bin .Mult (.k (.int 62089)) (.b 1))) (.k (.int 32416187))) .nil)) (.k (.int 2147483587)))) (.cons (.ret (.bin .Mod (.bi .int (.cons (.bin .Mult (.b 2) (.k (.int 48271))) .nil)) (.k (.int 2147483647)))) .nil))) }
def f15 : Fn := { name := "_law_cell", N := ["script", "index"], np := 2, w := false, kw := [], kp := [], body := (.cons (.ife (.cmp .Lt (.b 1) (.bi .len (.cons (.b 0) .nil))) (.cons (.ret (.idx (.b 0) (.b 1))) .nil) .nil) (.cons (.ret (.bin .Mod (.bi .sum (.cons (.sl (.b 0) .no (.so (.k (.int 1)))) .nil)) (.k (.int 1000003)))) .nil)) }
def f16 : Fn := { name := "_law_generator", N := ["script", "index", "seed"], np := 2, w := false, kw := [], kp := [], body := (.cons (.set 2 (.call 15 (.cons (.b 0) (.cons (.b 1) .nil)))) (.cons (.ret (.lst (.cons (.bin .Mod (.bi .int (.cons (.bi .max (.cons (.bin .Sub (.b 2) (.bin .Pow (.k (.int 10)) (.k (.int 18)))) (.cons (.k (.int 0)) .nil))) .nil)) (.bin .Pow (.bin .Pow (.k (.int 10)) (.k (.int 60))) (.k (.int 10)))) (.cons (.bin .Mod (.bi .int (.cons (.b 2) .nil)) (.k (.int 2147483647))) (.cons (.bin .Mult (.k (.int 1000)) (.b 1)) .nil))))) .nil)) }
def f17 : Fn := { name := "_law_random", N := ["generator", "bound", "drawn", "turn"], np := 2, w := true, kw := [], kp := [], body := (.cons (.ife (.cmp .Gt (.idx (.b 0) (.k (.int 0))) (.k (.int 0))) (.cons (.set 2 (.bin .Mod (.bi .int (.cons (.idx (.b 0) (.k (.int 0))) .nil)) (.b 1))) (.cons (.sto 0 (.k (.int 0)) (.bin .FloorDiv (.idx (.b 0) (.k (.int 0))) (.b 1))) (.cons (.ret (.mv 2)) .nil))) .nil) (.cons (.set 2 (.k (.int 0))) (.cons (.for_ (.nm 3) (.rng1 (.bin .Add (.k (.int 1)) (.bin .FloorDiv (.me .bitlen (.b 1)) (.k (.int 30))))) (.cons (.sto 0 (.k (.int 2)) (.bin .Add (.idx (.b 0) (.k (.int 2))) (.k (.int 1)))) (.cons (.set 2 (.bin .Add (.bin .Mult (.b 2) (.k (.int 2147483587))) (.call 14 (.cons (.idx (.b 0) (.k (.int 1))) (.cons (.idx (.b 0) (.k (.int 2))) .nil))))) .nil))) (.cons (.ret (.bin .Mod (.bi .int (.cons (.b 2) .nil)) (.b 1))) .nil)))) }
def f18 : Fn := { name := "_law_pick", N := ["generator", "things"], np := 2, w := true, kw := [], kp := [], body := (.cons (.ret (.idx (.b 1) (.call 17 (.cons (.b 0) (.cons (.bi .len (.cons (.b 1) .nil)) .nil))))) .nil) }
def f19 : Fn := { name := "_law_call", N := ["door", "other", "goods"], np := 2, w := false, kw := [], kp := [], body := (.cons (.ife (.cmp .Eq (.b 0) (.k (.int 0))) (.cons (.ret (.call 6 (.cons (.v 1) (.cons (.k (.int 0)) .nil)))) .nil) .nil) (.cons (.ife (.cmp .Eq (.b 0) (.k (.int 1))) (.cons (.ret (.call 6 (.cons (.k (.int 3)) (.cons (.v 1) .nil)))) .nil) .nil) (.cons (.ife (.cmp .Eq (.b 0) (.k (.int 2))) (.cons (.ret (.call 11 (.cons (.v 1) .nil))) .nil) .nil) (.cons (.ife (.cmp .Eq (.b 0) (.k (.int 3))) (.cons (.ret (.call 11 (.cons (.lst (.cons (.tup (.cons (.k (.int 1)) (.cons (.k (.int 2)) .nil))) (.cons (.v 1) (.cons (.k .none) .nil)))) .nil))) .nil) .nil) (.cons (.ife (.cmp .Eq (.b 0) (.k (.int 4))) (.cons (.ret (.call 12 (.cons (.v 1) .nil))) .nil) .nil) (.cons (.ife (.cmp .Eq (.b 0) (.k (.int 5))) (.cons (.ret (.call 12 (.cons (.lst (.cons (.tup (.cons (.k (.int 3)) (.cons (.k (.int 1)) .nil))) (.cons (.tup (.cons (.k (.int 0)) (.cons (.k (.int 1)) .nil))) (.cons (.v 1) (.cons (.tup (.cons (.k (.int 2)) (.cons (.k (.int 4)) .nil))) .nil))))) .nil))) .nil) .nil) (.cons (.ife (.cmp .Eq (.b 0) (.k (.int 6))) (.cons (.ret (.call 13 (.cons (.v 1) (.cons (.k .none) .nil)))) .nil) .nil) (.cons (.ife (.cmp .Eq (.b 0) (.k (.int 7))) (.cons (.ret (.call 13 (.cons (.tup (.cons (.k (.int 1)) (.cons (.k (.int 2)) .nil))) (.cons (.v 1) .nil)))) .nil) .nil) (.cons (.ife (.cmp .Eq (.b 0) (.k (.int 8))) (.cons (.ret (.call 6 (.cons (.k (.int 0)) (.cons (.v 1) .nil)))) .nil) .nil) (.cons (.set 2 (.bin .Add (.bin .Add (.bin .Mult (.lst (.cons (.tup (.cons (.k (.int 1)) (.cons (.k (.int 3)) .nil))) .nil)) (.idx (.b 1) (.k (.int 1)))) (.lst (.cons (.idx (.b 1) (.k (.int 0))) .nil))) (.bin .Mult (.lst (.cons (.tup (.cons (.k (.int 1)) (.cons (.k (.int 3)) .nil))) .nil)) (.bin .Sub (.k (.int 12)) (.idx (.b 1) (.k (.int 1))))))) (.cons (.ret (.ife (.cmp .Eq (.b 0) (.k (.int 9))) (.call 11 (.cons (.v 2) .nil)) (.call 12 (.cons (.v 2) .nil)))) .nil))))))))))) }
def f20 : Fn := { name := "_law_caught", N := ["door", "other", "caught", "error", "kinds"], np := 2, w := false, kw := [], kp := [], body := (.cons (.set 2 (.k .none)) (.cons (.tr (.cons (.ex (.call 19 (.cons (.b 0) (.cons (.v 1) .nil)))) .nil) 23 [23, 24, 25, 26] 3 2) (.cons (.set 4 (.lst (.cons (.isC (.b 2) 24 [24]) (.cons (.isC (.b 2) 26 [26]) (.cons (.isC (.b 2) 25 [25]) .nil))))) (.cons (.ret (.lst (.cons (.v 4) (.cons (.ife (.is (.b 2) .non false) (.k .none) (.bi .repr (.cons (.fld (.b 2)) .nil))) .nil)))) .nil)))) }
def f21 : Fn := { name := "_law_alone", N := ["call", "odd", "caught", "error"], np := 2, w := false, kw := [], kp := [], body := (.cons (.set 2 (.k .none)) (.cons (.tr (.cons (.ex (.callv 0 (.cons (.lst (.cons (.v 1) .nil)) .nil))) .nil) 23 [23, 24, 25, 26] 3 2) (.cons (.ret (.and (.cons (.isC (.b 2) 25 [25]) (.cons (.cmp .Eq (.fld (.b 2)) (.b 1)) .nil)))) .nil))) }
def f22 : Fn := { name := "law", N := ["script", "index", "generator", "number", "strange", "odd", "door", "kind", "at", "call", "good"], np := 1, w := false, kw := [], kp := [], body := (.cons (.for_ (.nm 1) (.rng1 (.k (.int 3))) (.cons (.set 2 (.call 16 (.cons (.b 0) (.cons (.b 1) .nil)))) (.cons (.set 3 (.bin .Add (.k (.int 1)) (.call 17 (.cons (.b 2) (.cons (.bin .Pow (.k (.int 10)) (.k (.int 9))) .nil))))) (.cons (.set 4 (.lst (.cons (.k .none) (.cons (.k (.bool true)) (.cons (.k (.bool false)) (.cons (.k (.str "")) (.cons (.k (.str "1")) (.cons .dct (.cons (.tup .nil) (.cons (.tup (.cons (.k (.str "a")) .nil)) (.cons (.lst (.cons (.k (.int 1)) (.cons (.k (.int 2)) .nil))) (.cons (.tup (.cons (.k (.int 1)) (.cons (.k (.int 2)) (.cons (.k (.int 3)) .nil)))) (.cons (.tup (.cons (.k (.int 2)) (.cons (.k (.int 4)) .nil))) (.cons (.tup (.cons (.k (.int 1)) (.cons (.k (.int 0)) .nil))) (.cons (.tup (.cons (.k (.int 1)) (.cons (.bin .Sub (.k (.int 0)) (.k (.int 2))) .nil))) (.cons (.tup (.cons (.k (.int 0)) (.cons (.k (.int 2)) .nil))) (.cons (.tup (.cons (.k (.bool true)) (.cons (.k (.int 2)) .nil))) (.cons (.tup (.cons (.k (.int 1)) (.cons (.k (.bool true)) .nil))) (.cons (.tup (.cons (.v 3) (.cons (.v 3) .nil))) (.cons (.tup (.cons (.bin .Mult (.b 3) (.k (.int 2))) (.cons (.k (.int 2)) .nil))) .nil)))))))))))))))))))) (.cons (.set 4 (.lc [5] (.nm 5) (.seq (.b 4)) (.cons (.cmp .NotEq (.bi .repr (.cons (.b 5) .nil)) (.k (.str "(1, 1)"))) .nil) (.v 5))) (.cons (.for_ (.tp [6, 7]) (.enum (.lst (.cons (.k (.int 0)) (.cons (.k (.int 0)) (.cons (.k (.int 1)) (.cons (.k (.int 2)) (.cons (.k (.int 1)) (.cons (.k (.int 2)) (.cons (.k (.int 2)) (.cons (.k (.int 2)) .nil)))))))))) (.cons (.for_ (.nm 5) (.seq (.bin .Add (.bin .Add (.b 4) (.ife (.cmp .Eq (.b 6) (.k (.int 1))) (.lst (.cons (.k (.int 0)) .nil)) (.lst .nil))) (.ife (.cmp .Gt (.b 7) (.k (.int 0))) (.lst (.cons (.v 3) (.cons (.bin .Sub (.k (.int 0)) (.b 3)) (.cons (.k (.int 0)) .nil)))) (.lst .nil)))) (.cons (.ife (.or (.cons (.cmp .NotEq (.b 7) (.k (.int 1))) (.cons (.not (.isi (.b 5) .list)) .nil))) (.cons (.ife (.cmp .NotEq (.call 20 (.cons (.b 6) (.cons (.v 5) .nil))) (.lst (.cons (.lc [8] (.nm 8) (.rng1 (.k (.int 3))) .nil (.cmp .Eq (.b 8) (.b 7))) (.cons (.bi .repr (.cons (.b 5) .nil)) .nil)))) (.cons (.ret (.k (.bool false))) .nil) .nil) .nil) .nil) .nil)) .nil)) (.cons (.for_ (.nm 5) (.seq (.lst (.cons (.k (.int 0)) (.cons (.k .none) (.cons (.k (.bool true)) (.cons (.k (.str "0")) (.cons (.lst (.cons (.k (.int 0)) .nil)) .nil))))))) (.cons (.ife (.cmp .NotEq (.call 20 (.cons (.k (.int 8)) (.cons (.v 5) .nil))) (.lst (.cons (.lst (.cons (.k (.bool true)) (.cons (.k (.bool false)) (.cons (.k (.bool false)) .nil)))) (.cons (.bi .repr (.cons (.b 5) .nil)) .nil)))) (.cons (.ret (.k (.bool false))) .nil) .nil) .nil)) (.cons (.for_ (.nm 5) (.seq (.bin .Add (.b 4) (.lst (.cons (.v 3) .nil)))) (.cons (.for_ (.nm 6) (.seq (.lst (.cons (.k (.int 9)) (.cons (.k (.int 10)) .nil)))) (.cons (.ife (.cmp .NotEq (.call 20 (.cons (.b 6) (.cons (.tup (.cons (.v 5) (.cons (.call 18 (.cons (.b 2) (.cons (.lst (.cons (.k (.int 0)) (.cons (.k (.int 12)) (.cons (.call 17 (.cons (.b 2) (.cons (.k (.int 13)) .nil))) .nil)))) .nil))) .nil))) .nil))) (.lst (.cons (.lst (.cons (.k (.bool false)) (.cons (.k (.bool false)) (.cons (.k (.bool true)) .nil)))) (.cons (.bi .repr (.cons (.b 5) .nil)) .nil)))) (.cons (.ret (.k (.bool false))) .nil) .nil) .nil)) .nil)) (.cons (.for_ (.nm 9) (.seq (.lst (.cons (.fv 11) (.cons (.fv 12) .nil)))) (.cons (.ife (.not (.call 21 (.cons (.b 9) (.cons (.tup (.cons (.k (.int 2)) (.cons (.k (.int 4)) .nil))) .nil)))) (.cons (.ret (.k (.bool false))) .nil) .nil) .nil)) (.cons (.for_ (.tp [6, 10]) (.seq (.lst (.cons (.tup (.cons (.k (.int 1)) (.cons (.bin .Sub (.k (.int 0)) (.b 3)) .nil))) (.cons (.tup (.cons (.k (.int 2)) (.cons (.lst (.cons (.tup (.cons (.v 3) (.cons (.k (.int 1)) .nil))) .nil)) .nil))) .nil)))) (.cons (.ife (.cmp .NotEq (.call 20 (.cons (.b 6) (.cons (.v 10) .nil))) (.lst (.cons (.bin .Mult (.lst (.cons (.k (.bool false)) .nil)) (.k (.int 3))) (.cons (.k .none) .nil)))) (.cons (.ret (.k (.bool false))) .nil) .nil) .nil)) (.cons (.ife (.cmp .NotEq (.call 20 (.cons (.k (.int 3)) (.cons (.tup (.cons (.v 3) (.cons (.k (.int 1)) .nil))) .nil))) (.lst (.cons (.lst (.cons (.k (.bool false)) (.cons (.k (.bool false)) (.cons (.k (.bool true)) .nil)))) (.cons (.bi .repr (.cons (.k .none) .nil)) .nil)))) (.cons (.ret (.k (.bool false))) .nil) .nil) .nil))))))))))) (.cons (.ret (.k (.bool true))) .nil)) }
def f23 : Fn := { name := "LoneError", N := [], np := 0, w := false, kw := [], kc := some (clD 23), cl := some [23, 24, 25, 26], body := .nil }
def f24 : Fn := { name := "InvalidNumber", N := [], np := 0, w := false, kw := [], kc := some (clD 24), cl := some [24], body := .nil }
def f25 : Fn := { name := "InvalidFraction", N := [], np := 0, w := false, kw := [], kc := some (clD 25), cl := some [25], body := .nil }
def f26 : Fn := { name := "InvalidList", N := [], np := 0, w := false, kw := [], kc := some (clD 26), cl := some [26], body := .nil }
def G : List Fn := [f0, f1, f2, f3, f4, f5, f6, f7, f8, f9, f10, f11, f12, f13, f14, f15, f16, f17, f18, f19, f20, f21, f22, f23, f24, f25, f26]
end K04
namespace K04
/-! Euclid's steps: Lame -/
def es (p : Nat × Nat) : Nat × Nat := if 0 < p.2 then (p.2, p.1 % p.2) else (p.1, 0)
def esN : Nat → Nat × Nat → Nat × Nat
  | 0, p => p
  | t + 1, p => esN t (es p)
def L : Nat → Nat
  | 0 => 1
  | 1 => 2
  | t + 2 => L (t + 1) + L t
theorem esN_zero : ∀ (t a : Nat), esN t (a, 0) = (a, 0)
  | 0, _ => rfl
  | t + 1, a => by
    show esN t (es (a, 0)) = _
    have : es (a, 0) = (a, 0) := rfl
    rw [this, esN_zero t a]
theorem es_pos {a b : Nat} (h : 0 < b) : es (a, b) = (b, a % b) := if_pos h
theorem fails : ∀ (t a b : Nat), b < a → (esN t (a, b)).2 ≠ 0 → L t ≤ b
  | 0, a, b, _, h => by
    have : b ≠ 0 := h
    show 1 ≤ b
    omega
  | 1, a, b, hb, h => by
    show 2 ≤ b
    have b0 : b ≠ 0 := fun z => h (by subst z; rfl)
    have e : esN 1 (a, b) = (b, a % b) := es_pos (by omega)
    rw [e] at h
    have hr : a % b ≠ 0 := h
    have : b ≠ 1 := fun z => hr (by rw [z]; exact Nat.mod_one a)
    omega
  | t + 2, a, b, hb, h => by
    have b0 : b ≠ 0 := fun z => h (by subst z; rw [esN_zero])
    have e : esN (t + 2) (a, b) = esN (t + 1) (b, a % b) := by
      show esN (t + 1) (es (a, b)) = _
      rw [es_pos (by omega)]
    rw [e] at h
    have hr : a % b < b := Nat.mod_lt _ (by omega)
    have h1 := fails (t + 1) b (a % b) hr h
    have r0 : a % b ≠ 0 := fun z => h (by rw [z, esN_zero])
    have e2 : esN (t + 1) (b, a % b) = esN t (a % b, b % (a % b)) := by
      show esN t (es (b, a % b)) = _
      rw [es_pos (by omega)]
    rw [e2] at h
    have h2 := fails t (a % b) (b % (a % b)) (Nat.mod_lt _ (by omega)) h
    show L (t + 1) + L t ≤ b
    have q := Nat.div_add_mod b (a % b)
    have d : 1 ≤ b / (a % b) := (Nat.le_div_iff_mul_le (by omega)).mpr (by omega)
    have m : a % b ≤ (a % b) * (b / (a % b)) := Nat.le_mul_of_pos_right _ d
    omega
theorem L_step (t : Nat) : L (t + 2) = L (t + 1) + L t := rfl
theorem L_mono : ∀ t, L t ≤ L (t + 1) ∧ L (t + 1) ≤ 2 * L t ∧ 1 ≤ L t
  | 0 => by decide
  | t + 1 => by
    have := L_mono t
    have e : L (t + 1 + 1) = L (t + 1) + L t := L_step t
    omega
theorem L_ten (t : Nat) : 10 * L t ≤ L (t + 5) := by
  have e1 := L_step t
  have e2 := L_step (t + 1)
  have e3 := L_step (t + 2)
  have e4 := L_step (t + 3)
  have m := L_mono t
  have e2' : L (t + 3) = L (t + 2) + L (t + 1) := e2
  have e3' : L (t + 4) = L (t + 3) + L (t + 2) := e3
  have e4' : L (t + 5) = L (t + 4) + L (t + 3) := e4
  cases t with
  | zero => decide
  | succ k =>
    have e0 := L_step k
    have m0 := L_mono k
    have e0' : L (k + 2) = L (k + 1) + L k := e0
    have : L (k + 1 + 1) = L (k + 2) := rfl
    omega
theorem L_pow : ∀ k, 10 ^ k ≤ L (5 * k)
  | 0 => by decide
  | k + 1 => by
    have := L_pow k
    have t := L_ten (5 * k)
    rw [Nat.pow_succ, show 5 * (k + 1) = 5 * k + 5 by omega]
    omega
theorem es_gcd (a b : Nat) : Nat.gcd (es (a, b)).1 (es (a, b)).2 = Nat.gcd a b := by
  by_cases h : 0 < b
  · rw [es_pos h]
    show Nat.gcd b (a % b) = _
    rw [Nat.gcd_comm b, ← Nat.gcd_rec, Nat.gcd_comm]
  · have : b = 0 := by omega
    subst this
    rfl
theorem esN_gcd : ∀ (t : Nat) (p : Nat × Nat), Nat.gcd (esN t p).1 (esN t p).2 = Nat.gcd p.1 p.2
  | 0, p => rfl
  | t + 1, p => by
    show Nat.gcd (esN t (es p)).1 (esN t (es p)).2 = _
    rw [esN_gcd t (es p)]
    exact es_gcd p.1 p.2
theorem esN_add : ∀ (s t : Nat) (p : Nat × Nat), esN (s + t) p = esN t (esN s p)
  | 0, t, p => by rw [Nat.zero_add]; rfl
  | s + 1, t, p => by
    rw [show s + 1 + t = (s + t) + 1 by omega]
    exact esN_add s t (es p)
/-- after so many steps Euclid stands at the end -/
theorem es_end (a b k : Nat) (h : b < 10 ^ k) (t : Nat) (ht : 5 * k + 1 ≤ t) : esN t (a, b) = (Nat.gcd a b, 0) := by
  have z : (esN (5 * k + 1) (a, b)).2 = 0 := by
    apply Classical.byContradiction
    intro hn
    by_cases b0 : 0 < b
    · have e : esN (5 * k + 1) (a, b) = esN (5 * k) (b, a % b) := by
        show esN (5 * k) (es (a, b)) = _
        rw [es_pos b0]
      rw [e] at hn
      have hr := Nat.mod_lt a b0
      have := fails (5 * k) b (a % b) hr hn
      have := L_pow k
      omega
    · have : b = 0 := by omega
      subst this
      rw [esN_zero] at hn
      exact hn rfl
  have g := esN_gcd (5 * k + 1) (a, b)
  rw [z, Nat.gcd_zero_right] at g
  have e : esN (5 * k + 1) (a, b) = (Nat.gcd a b, 0) := Prod.ext g z
  obtain ⟨s, rfl⟩ : ∃ s, t = (5 * k + 1) + s := ⟨t - (5 * k + 1), by omega⟩
  rw [esN_add, e, esN_zero]
end K04
namespace K04
/-! fractions, plain -/
def gg (a b : Int) : Nat := Nat.gcd a.natAbs b.natAbs
def frA (a b : Int) : Int := if b < 0 then -(a / (gg a b : Int)) else a / (gg a b : Int)
def frB (a b : Int) : Int := if b < 0 then -(b / (gg a b : Int)) else b / (gg a b : Int)
theorem gg_pos {a b : Int} (h : b ≠ 0) : 0 < gg a b := Nat.gcd_pos_of_pos_right _ (by omega)
theorem gg_a (a b : Int) : ∃ c, a = c * (gg a b : Int) ∧ c.natAbs * gg a b = a.natAbs := by
  obtain ⟨c, hc⟩ : ((gg a b : Nat) : Int) ∣ a := Int.ofNat_dvd_left.mpr (Nat.gcd_dvd_left _ _)
  refine ⟨c, by rw [Int.mul_comm]; exact hc, ?_⟩
  have := congrArg Int.natAbs hc
  rw [Int.natAbs_mul, Int.natAbs_natCast, Nat.mul_comm] at this
  exact this.symm
theorem gg_b (a b : Int) : ∃ c, b = c * (gg a b : Int) ∧ c.natAbs * gg a b = b.natAbs := by
  obtain ⟨c, hc⟩ : ((gg a b : Nat) : Int) ∣ b := Int.ofNat_dvd_left.mpr (Nat.gcd_dvd_right _ _)
  refine ⟨c, by rw [Int.mul_comm]; exact hc, ?_⟩
  have := congrArg Int.natAbs hc
  rw [Int.natAbs_mul, Int.natAbs_natCast, Nat.mul_comm] at this
  exact this.symm
/-- what both numbers come to -/
theorem fr_shape {a b : Int} (h : b ≠ 0) : ∃ c d : Int, ∃ g : Nat, g = gg a b ∧ 0 < g ∧ a = c * (g : Int) ∧ b = d * (g : Int) ∧ Nat.gcd c.natAbs d.natAbs = 1 ∧ frA a b = (if b < 0 then -c else c) ∧ frB a b = (if b < 0 then -d else d) := by
  have g0 := gg_pos (a := a) h
  obtain ⟨c, hc, nc⟩ := gg_a a b
  obtain ⟨d, hd, nd⟩ := gg_b a b
  have gz : ((gg a b : Nat) : Int) ≠ 0 := by omega
  have ec : a / (gg a b : Int) = c := by
    conv => lhs; lhs; rw [hc]
    exact Int.mul_ediv_cancel _ gz
  have ed : b / (gg a b : Int) = d := by
    conv => lhs; lhs; rw [hd]
    exact Int.mul_ediv_cancel _ gz
  refine ⟨c, d, gg a b, rfl, g0, hc, hd, ?_, by unfold frA; rw [ec], by unfold frB; rw [ed]⟩
  have k : Nat.gcd (c.natAbs * gg a b) (d.natAbs * gg a b) = gg a b := by rw [nc, nd]; rfl
  rw [Nat.gcd_mul_right] at k
  exact Nat.eq_of_mul_eq_mul_right g0 (by rw [k, Nat.one_mul])
theorem div_of {a c : Int} {g : Nat} (g0 : 0 < g) (h : a = c * (g : Int)) : a.fdiv (g : Int) = c ∧ a.fdiv (0 - (g : Int)) = -c ∧ (0 - a).fdiv (g : Int) = -c := by
  have gz : (g : Int) ≠ 0 := by omega
  subst h
  refine ⟨Int.mul_fdiv_cancel _ gz, ?_, ?_⟩
  · rw [show c * (g : Int) = (-c) * (0 - (g : Int)) by rw [Int.zero_sub, Int.neg_mul_neg]]
    exact Int.mul_fdiv_cancel _ (by omega)
  · rw [show 0 - c * (g : Int) = (-c) * (g : Int) by rw [Int.zero_sub, Int.neg_mul]]
    exact Int.mul_fdiv_cancel _ gz
theorem low_pos {a b : Int} (h : 0 < b) : a.fdiv (gg a b : Int) = frA a b ∧ b.fdiv (gg a b : Int) = frB a b := by
  obtain ⟨c, d, g, rfl, g0, ha, hb, _, ea, eb⟩ := fr_shape (a := a) (b := b) (by omega)
  rw [if_neg (by omega)] at ea eb
  rw [ea, eb]
  exact ⟨(div_of g0 ha).1, (div_of g0 hb).1⟩
theorem low_neg {a b : Int} (h : b < 0) : a.fdiv (0 - (gg a b : Int)) = frA a b ∧ b.fdiv (0 - (gg a b : Int)) = frB a b := by
  obtain ⟨c, d, g, rfl, g0, ha, hb, _, ea, eb⟩ := fr_shape (a := a) (b := b) (by omega)
  rw [if_pos h] at ea eb
  rw [ea, eb]
  exact ⟨(div_of g0 ha).2.1, (div_of g0 hb).2.1⟩
theorem frB_pos {a b : Int} (h : b ≠ 0) : 1 ≤ frB a b := by
  obtain ⟨c, d, g, rfl, g0, ha, hb, _, ea, eb⟩ := fr_shape (a := a) h
  rw [eb]
  have g1 : (0 : Int) < (gg a b : Int) := by omega
  by_cases hn : b < 0
  · rw [if_pos hn]
    have : d < 0 := Int.lt_of_not_ge fun q => by
      have := Int.mul_nonneg q (Int.le_of_lt g1)
      omega
    omega
  · rw [if_neg hn]
    have : 0 < d := Int.lt_of_not_ge fun q => by
      have := Int.mul_nonneg (show 0 ≤ -d by omega) (Int.le_of_lt g1)
      rw [Int.neg_mul] at this
      omega
    omega
theorem fr_gcd {a b : Int} (h : b ≠ 0) : gg (frA a b) (frB a b) = 1 := by
  obtain ⟨c, d, g, rfl, g0, ha, hb, k, ea, eb⟩ := fr_shape (a := a) h
  rw [ea, eb]
  unfold gg
  by_cases hn : b < 0
  · rw [if_pos hn, if_pos hn, Int.natAbs_neg, Int.natAbs_neg, k]
  · rw [if_neg hn, if_neg hn, k]
theorem fr_le {a b : Int} (h : b ≠ 0) : (frA a b).natAbs ≤ a.natAbs ∧ (frB a b).natAbs ≤ b.natAbs := by
  obtain ⟨c, d, g, rfl, g0, ha, hb, k, ea, eb⟩ := fr_shape (a := a) h
  have na : c.natAbs ≤ a.natAbs := by
    have := congrArg Int.natAbs ha
    rw [Int.natAbs_mul, Int.natAbs_natCast] at this
    rw [this]
    exact Nat.le_mul_of_pos_right _ g0
  have nb : d.natAbs ≤ b.natAbs := by
    have := congrArg Int.natAbs hb
    rw [Int.natAbs_mul, Int.natAbs_natCast] at this
    rw [this]
    exact Nat.le_mul_of_pos_right _ g0
  rw [ea, eb]
  by_cases hn : b < 0
  · rw [if_pos hn, if_pos hn, Int.natAbs_neg, Int.natAbs_neg]
    exact ⟨na, nb⟩
  · rw [if_neg hn, if_neg hn]
    exact ⟨na, nb⟩
theorem gg_scale {a b : Int} (t : Nat) : gg (a * t) (b * t) = gg a b * t := by
  unfold gg
  rw [Int.natAbs_mul, Int.natAbs_mul, Int.natAbs_natCast, Nat.gcd_mul_right]
theorem fr_scale {a b : Int} (h : b ≠ 0) {t : Nat} (ht : 0 < t) : frA (a * t) (b * t) = frA a b ∧ frB (a * t) (b * t) = frB a b := by
  have t0 : (0 : Int) < (t : Int) := by omega
  have s : b * t < 0 ↔ b < 0 := by
    constructor
    · intro q
      exact Int.lt_of_not_ge fun r => by
        have := Int.mul_nonneg r (Int.le_of_lt t0)
        omega
    · intro q
      exact Int.mul_neg_of_neg_of_pos q t0
  have e : ∀ x : Int, x * t / ((gg (a * t) (b * t) : Nat) : Int) = x / (gg a b : Int) := by
    intro x
    rw [gg_scale, Int.natCast_mul]
    exact Int.mul_ediv_mul_of_pos_left _ _ t0
  unfold frA frB
  rw [e, e]
  by_cases hn : b < 0
  · rw [if_pos hn, if_pos (s.mpr hn), if_pos (s.mpr hn), if_pos hn]; exact ⟨rfl, rfl⟩
  · rw [if_neg hn, if_neg (fun q => hn (s.mp q)), if_neg (fun q => hn (s.mp q)), if_neg hn]; exact ⟨rfl, rfl⟩
theorem gg_neg (a b : Int) : gg (0 - a) (0 - b) = gg a b := by
  unfold gg
  rw [Int.zero_sub, Int.zero_sub, Int.natAbs_neg, Int.natAbs_neg]
theorem fr_neg {a b : Int} (h : b ≠ 0) : frA (0 - a) (0 - b) = frA a b ∧ frB (0 - a) (0 - b) = frB a b := by
  obtain ⟨c, d, g, hg, g0, ha, hb, k, ea, eb⟩ := fr_shape (a := a) h
  obtain ⟨c', d', g', hg', g0', ha', hb', k', ea', eb'⟩ := fr_shape (a := 0 - a) (b := 0 - b) (by omega)
  rw [gg_neg] at hg'
  have gz : (g : Int) ≠ 0 := by omega
  have e : g' = g := by rw [hg', hg]
  subst e
  have c1 : c' = -c := Int.eq_of_mul_eq_mul_right gz (by rw [← ha', Int.neg_mul, ← ha]; omega)
  have d1 : d' = -d := Int.eq_of_mul_eq_mul_right gz (by rw [← hb', Int.neg_mul, ← hb]; omega)
  rw [ea, eb, ea', eb', c1, d1]
  by_cases hn : b < 0
  · rw [if_pos hn, if_neg (by omega), if_neg (by omega), if_pos hn]; exact ⟨rfl, rfl⟩
  · rw [if_neg hn, if_pos (by omega), if_pos (by omega), if_neg hn]; exact ⟨by omega, by omega⟩
theorem fr_is {x y : Int} (h : 0 < y) : (frA x y = x ∧ frB x y = y) ↔ gg x y = 1 := by
  constructor
  · intro ⟨a, b⟩
    have := fr_gcd (a := x) (b := y) (by omega)
    rw [a, b] at this
    exact this
  · intro e
    unfold frA frB
    rw [if_neg (by omega), if_neg (by omega), e]
    exact ⟨Int.ediv_one _, Int.ediv_one _⟩
end K04
namespace K04
open PySem TL
/-! ### numbers that are not too great -/
def Sm (x : Int) : Prop := x.natAbs < 10 ^ 1400
theorem sm_log {x : Int} (h : Sm x) : x.natAbs.log2 < 5000 := by
  refine log2_lt (by decide) (Nat.lt_of_lt_of_le h ?_)
  decide +kernel
theorem sm_div {x : Int} (h : Sm x) (z : x ≠ 0) : divOk x = true := by
  have := sm_log h
  unfold divOk
  simp [z]
  omega
theorem sm_mul {x y : Int} (h : Sm x) (k : Sm y) : mulOk x y = true := by
  have a := sm_log h
  have b := sm_log k
  unfold mulOk
  exact decide_eq_true (by omega)
theorem sm_low {x y : Int} (h : Sm x) (k : y.natAbs ≤ x.natAbs) : Sm y := Nat.lt_of_le_of_lt k h
theorem sm_12 {x : Int} (h : x.natAbs < 10 ^ 100) : Sm x := by
  refine Nat.lt_of_lt_of_le h ?_
  decide +kernel
theorem big {n : Nat} (h : n ≤ 1000000) : n ≤ sizeLine := by rw [show sizeLine = 16777216 by decide]; omega
/-! ### Euclid's loops -/
def wT : E := .cmp .Gt (.b 1) (.k (.int 0))
def wB : Ss := .cons (.parO [0, 1] (.cons (.v 1) (.cons (.bin .Mod (.b 0) (.b 1)) .nil))) .nil
theorem wT_ok (C : Calls) (x y : Int) : ev C (wrOf G) wT [.sh (.int x), .sh (.int y)] = .ok (.val (.bool (decide (0 < y))) false) [.sh (.int x), .sh (.int y)] := by
  unfold wT
  simp -implicitDefEqProofs
theorem wB_ok (C : Calls) (x y z : Int) (h : y ≠ 0) (e : x.fmod y = z) : exs C (wrOf G) wB [.sh (.int x), .sh (.int y)] = .ok .next [.sh (.int y), .sh (.int z)] := by
  unfold wB
  simp -implicitDefEqProofs [h, e]
theorem fmod_nat (a b : Nat) : (a : Int).fmod (b : Int) = ((a % b : Nat) : Int) := by
  rw [Int.fmod_eq_emod_of_nonneg _ (Int.natCast_nonneg _), Int.natCast_emod]
theorem wStop (C : Calls) (n : Nat) (a : Int) : whLoop (ev C (wrOf G) wT) (exs C (wrOf G) wB) (n + 1) [.sh (.int a), .sh (.int 0)] = .ok .next [.sh (.int a), .sh (.int 0)] := by
  rw [whL_step, wT_ok]
  rfl
theorem wGo (C : Calls) (n : Nat) (x y z : Int) (h : 0 < y) (e : x.fmod y = z) : whLoop (ev C (wrOf G) wT) (exs C (wrOf G) wB) (n + 1) [.sh (.int x), .sh (.int y)] = whLoop (ev C (wrOf G) wT) (exs C (wrOf G) wB) n [.sh (.int y), .sh (.int z)] := by
  rw [whL_step, wT_ok, decide_eq_true h, bind_okS]
  show (br (some true) _ _) = _
  rw [br_some, cond_true, wB_ok C x y z (by omega) e, bind_okS, turn_next]
theorem wLoop (C : Calls) : ∀ (k a b : Nat), (esN k (a, b)).2 = 0 → ∀ n, k < n → whLoop (ev C (wrOf G) wT) (exs C (wrOf G) wB) n [.sh (.int (a : Nat)), .sh (.int (b : Nat))] = .ok .next [.sh (.int ((Nat.gcd a b : Nat) : Int)), .sh (.int 0)]
  | k, a, 0, _, n, hn => by
    obtain ⟨m, rfl⟩ : ∃ m, n = m + 1 := ⟨n - 1, by omega⟩
    rw [Nat.gcd_zero_right]
    exact wStop C m a
  | 0, a, b + 1, h, n, hn => absurd h (by show b + 1 ≠ 0; omega)
  | k + 1, a, b + 1, h, n, hn => by
    obtain ⟨m, rfl⟩ : ∃ m, n = m + 1 := ⟨n - 1, by omega⟩
    rw [wGo C m (a : Nat) ((b + 1 : Nat) : Int) ((a % (b + 1) : Nat) : Int) (by omega) (fmod_nat _ _)]
    have h : (esN k (es (a, b + 1))).2 = 0 := h
    rw [es_pos (by omega)] at h
    rw [wLoop C k (b + 1) (a % (b + 1)) h m (by omega)]
    have : Nat.gcd (b + 1) (a % (b + 1)) = Nat.gcd a (b + 1) := by
      rw [Nat.gcd_comm (b + 1), ← Nat.gcd_rec, Nat.gcd_comm]
    rw [this]
def s2_0 : S := (.parO [0, 1] (.cons (.bi .abs (.cons (.b 0) .nil)) (.cons (.bi .abs (.cons (.b 1) .nil)) .nil)))
def s2_1 : S := (.wh (.cmp .Gt (.b 1) (.k (.int 0))) (.cons (.parO [0, 1] (.cons (.v 1) (.cons (.bin .Mod (.b 0) (.b 1)) .nil))) .nil))
def s2_2 : S := (.ret (.mv 0))
theorem body2 : f2.body = (.cons s2_0 (.cons s2_1 (.cons s2_2 .nil))) := rfl
def s5_0 : S := (.set 2 (.call 2 (.cons (.v 0) (.cons (.v 1) .nil))))
def s5_1 : S := (.ife (.cmp .Lt (.b 1) (.k (.int 0))) (.cons (.set 2 (.bin .Sub (.k (.int 0)) (.b 2))) .nil) .nil)
def s5_2 : S := (.ret (.tup (.cons (.bin .FloorDiv (.b 0) (.b 2)) (.cons (.bin .FloorDiv (.b 1) (.b 2)) .nil))))
theorem body5 : f5.body = (.cons s5_0 (.cons s5_1 (.cons s5_2 .nil))) := rfl
theorem cm20 (C : Calls) (x y u v : Int) (hu : (if x < 0 then -x else x) = u) (hv : (if y < 0 then -y else y) = v) : ex C (wrOf G) s2_0 [.sh (.int x), .sh (.int y)] = .ok .next [.sh (.int u), .sh (.int v)] := by
  unfold s2_0
  simp -implicitDefEqProofs [hu, hv]
theorem abs_nat (x : Int) : (if x < 0 then -x else x) = ((x.natAbs : Nat) : Int) := by
  by_cases h : x < 0
  · rw [if_pos h]; omega
  · rw [if_neg h]; omega
theorem fuel_gt : 5 * 1400 + 1 < fuel := by unfold fuel; omega
theorem cm21 (C : Calls) (a b : Nat) (h : b < 10 ^ 1400) : ex C (wrOf G) s2_1 [.sh (.int (a : Nat)), .sh (.int (b : Nat))] = .ok .next [.sh (.int ((Nat.gcd a b : Nat) : Int)), .sh (.int 0)] :=
  wLoop C (5 * 1400 + 1) a b (by rw [es_end a b 1400 h _ (Nat.le_refl _)]) fuel fuel_gt
theorem cm22 (C : Calls) (x y : Int) : ex C (wrOf G) s2_2 [.sh (.int x), .sh (.int y)] = .ok (.ret (.int x) false) [.sh (.int x), .sh (.int y)] := by
  unfold s2_2
  simp -implicitDefEqProofs
theorem common_ok (n : Nat) {x y : Int} (h : Sm y) : TL.run G (n + 1) 2 [.sh (.int x), .sh (.int y)] = .ok (.int (gg x y : Nat)) false none := by
  refine run_ret (n := n) (i := 2) (F := f2) rfl rfl (g' := [.sh (.int (gg x y : Nat)), .sh (.int 0)]) ?_ rfl
  rw [body2]
  exact (exs_step (cm20 _ x y _ _ (abs_nat x) (abs_nat y))).trans ((exs_step (cm21 _ _ _ h)).trans (exs_ret (cm22 _ _ _)))
/-! ### lowest_of, fraction_of -/
def frD (a b : Int) : D := .tuple [.int (frA a b), .int (frB a b)]
theorem l50 (C : Calls) (x y p : Int) (c : C 2 [.sh (.int x), .sh (.int y)] = .ok (.int p) false none) : ex C (wrOf G) s5_0 [.sh (.int x), .sh (.int y), .un] = .ok .next [.sh (.int x), .sh (.int y), .sh (.int p)] := by
  unfold s5_0
  have w : wrOf G 2 = false := rfl
  simp -implicitDefEqProofs [w, c]
theorem l51 (C : Calls) (x y p q : Int) (hq : q = if y < 0 then 0 - p else p) : ex C (wrOf G) s5_1 [.sh (.int x), .sh (.int y), .sh (.int p)] = .ok .next [.sh (.int x), .sh (.int y), .sh (.int q)] := by
  unfold s5_1
  by_cases h : y < 0
  · rw [if_pos h] at hq
    subst hq
    simp -implicitDefEqProofs [h]
  · rw [if_neg h] at hq
    subst hq
    simp -implicitDefEqProofs [h]
theorem l52 (C : Calls) (x y p u v : Int) (d : divOk p = true) (hu : x.fdiv p = u) (hv : y.fdiv p = v) : ex C (wrOf G) s5_2 [.sh (.int x), .sh (.int y), .sh (.int p)] = .ok (.ret (.tuple [.int u, .int v]) false) [.sh (.int x), .sh (.int y), .sh (.int p)] := by
  unfold s5_2
  have z2 : 2 ≤ sizeLine := by decide
  simp -implicitDefEqProofs [d, hu, hv, z2]
theorem gg_le {x y : Int} (h : y ≠ 0) : gg x y ≤ y.natAbs := Nat.gcd_le_right _ (by omega)
theorem low_ok (n : Nat) {x y : Int} (h : Sm y) (h0 : y ≠ 0) : TL.run G (n + 2) 5 [.sh (.int x), .sh (.int y)] = .ok (frD x y) false none := by
  have c := common_ok n (x := x) h
  have g0 := gg_pos (a := x) h0
  have gl := gg_le (x := x) h0
  obtain ⟨p, hp⟩ : ∃ p : Int, p = if y < 0 then 0 - (gg x y : Int) else (gg x y : Int) := ⟨_, rfl⟩
  have dp : divOk p = true := by
    refine sm_div (sm_low h ?_) ?_
    · rw [hp]; split <;> omega
    · rw [hp]; split <;> omega
  have e : x.fdiv p = frA x y ∧ y.fdiv p = frB x y := by
    rw [hp]
    by_cases q : y < 0
    · rw [if_pos q]; exact low_neg q
    · rw [if_neg q]; exact low_pos (by omega)
  refine run_ret (n := n + 1) (i := 5) (F := f5) rfl rfl (g' := [.sh (.int x), .sh (.int y), .sh (.int p)]) ?_ rfl
  rw [body5]
  exact (exs_step (l50 _ x y _ c)).trans ((exs_step (l51 _ x y _ p hp)).trans (exs_ret (l52 _ x y p _ _ dp e.1 e.2)))
theorem w0 : wrOf G 0 = false := rfl
theorem w2 : wrOf G 2 = false := rfl
theorem z2 : 2 ≤ sizeLine := by decide
def s3_0 : S := (.ife (.or (.cons (.not (.isi (.b 0) .tuple)) (.cons (.cmp .NotEq (.bi .len (.cons (.b 0) .nil)) (.k (.int 2))) (.cons (.not (.call 0 (.cons (.idx (.b 0) (.k (.int 0))) .nil))) (.cons (.not (.call 0 (.cons (.idx (.b 0) (.k (.int 1))) .nil))) .nil))))) (.cons (.ret (.k (.bool false))) .nil) .nil)
def s3_1 : S := (.ret (.and (.cons (.cmp .GtE (.idx (.b 0) (.k (.int 1))) (.k (.int 1))) (.cons (.cmp .Eq (.call 2 (.cons (.idx (.b 0) (.k (.int 0))) (.cons (.idx (.b 0) (.k (.int 1))) .nil))) (.k (.int 1))) .nil))))
theorem body3 : f3.body = (.cons s3_0 (.cons s3_1 .nil)) := rfl
/-! ### is_fraction -/
def isW : D → Bool
  | .int _ => true
  | _ => false
theorem wholeC (C : Calls) (d : D) (td : tyd d = true) : runFn C (wrOf G) f0 [.sh d] = .ok (.bool (isW d)) false none := by
  cases d <;> simp -implicitDefEqProofs [f0, runFn, isW, isTy, -tyd_d, td]
theorem whole' (n : Nat) (d : D) (td : tyd d = true) : TL.run G (n + 1) 0 [.sh d] = .ok (.bool (isW d)) false none := run_of rfl rfl (wholeC _ d td)
def isF : D → Bool
  | .tuple [.int x, .int y] => decide (1 ≤ y) && decide (gg x y = 1)
  | _ => false
theorem isW_cases {d : D} (h : isW d = true) : ∃ x, d = .int x := by
  cases d <;> first | exact ⟨_, rfl⟩ | cases h
theorem isF_no {a b : D} (h : (isW a && isW b) = false) : isF (.tuple [a, b]) = false := by
  cases a <;> first | rfl | (cases b <;> first | rfl | cases h)
theorem f30a (C : Calls) (a b : D) (ca : C 0 [.sh a] = .ok (.bool (isW a)) false none) (cb : C 0 [.sh b] = .ok (.bool (isW b)) false none) (h : (isW a && isW b) = false) :
    ex C (wrOf G) s3_0 [.sh (.tuple [a, b])] = .ok (.ret (.bool false) false) [.sh (.tuple [a, b])] := by
  unfold s3_0
  cases ha : isW a with
  | false =>
    rw [ha] at ca
    simp -implicitDefEqProofs [w0, ca, isTy]
  | true =>
    rw [ha] at ca
    cases hb : isW b with
    | false =>
      rw [hb] at cb
      simp -implicitDefEqProofs [w0, ca, cb, isTy]
    | true => rw [ha, hb] at h; cases h
theorem f30b (C : Calls) (a b : D) (ca : C 0 [.sh a] = .ok (.bool true) false none) (cb : C 0 [.sh b] = .ok (.bool true) false none) :
    ex C (wrOf G) s3_0 [.sh (.tuple [a, b])] = .ok .next [.sh (.tuple [a, b])] := by
  unfold s3_0
  simp -implicitDefEqProofs [w0, ca, cb, isTy]
theorem f30c (C : Calls) (xs : List D) (h : xs.length ≠ 2) : ex C (wrOf G) s3_0 [.sh (.tuple xs)] = .ok (.ret (.bool false) false) [.sh (.tuple xs)] := by
  unfold s3_0
  have h : (xs.length : Int) ≠ 2 := by omega
  simp -implicitDefEqProofs [isTy, h]
theorem f31 (C : Calls) (x y g : Int) (c : C 2 [.sh (.int x), .sh (.int y)] = .ok (.int g) false none) : ex C (wrOf G) s3_1 [.sh (.tuple [.int x, .int y])] = .ok (.ret (.bool (decide (1 ≤ y) && decide (g = 1))) false) [.sh (.tuple [.int x, .int y])] := by
  unfold s3_1
  by_cases h : 1 ≤ y
  · simp -implicitDefEqProofs [w2, c, h]
  · simp -implicitDefEqProofs [w2, c, h]
/-- the numbers of a pair are not too great -/
structure SmD (d : D) : Prop where
  td : tyd d = true
  ti : ∀ a b : D, d = .tuple [a, b] → tyd a = true ∧ tyd b = true
  sm : ∀ x y : Int, d = .tuple [.int x, .int y] → Sm x ∧ Sm y
theorem isf_ok (n : Nat) {d : D} (h : SmD d) : TL.run G (n + 2) 3 [.sh d] = .ok (.bool (isF d)) false none := by
  by_cases ht : ∃ xs, d = .tuple xs
  · obtain ⟨xs, rfl⟩ := ht
    refine run_ret (n := n + 1) (i := 3) (F := f3) rfl rfl (g' := [.sh (.tuple xs)]) ?_ rfl
    rw [body3]
    by_cases h2 : xs.length = 2
    · match xs, h2 with
      | [a, b], _ =>
        have ca := whole' n a (h.ti a b rfl).1
        have cb := whole' n b (h.ti a b rfl).2
        cases hw : isW a && isW b with
        | false =>
          rw [isF_no hw]
          exact exs_ret (f30a _ a b ca cb hw)
        | true =>
          rw [Bool.and_eq_true] at hw
          obtain ⟨x, rfl⟩ := isW_cases hw.1
          obtain ⟨y, rfl⟩ := isW_cases hw.2
          have s := (h.sm x y rfl).2
          have c := common_ok n (x := x) s
          refine (exs_step (f30b _ _ _ ca cb)).trans ((exs_ret (f31 _ x y _ c)).trans ?_)
          have e : decide (((gg x y : Nat) : Int) = 1) = decide (gg x y = 1) := by
            by_cases q : gg x y = 1
            · rw [decide_eq_true q, decide_eq_true (by omega)]
            · rw [decide_eq_false q, decide_eq_false (by omega)]
          rw [e]
          rfl
    · have e : isF (.tuple xs) = false := by
        match xs, h2 with
        | [], _ => rfl
        | [a], _ => cases a <;> rfl
        | [a, b], h2 => exact absurd rfl h2
        | a :: b :: c :: r, _ => cases a <;> first | rfl | (cases b <;> rfl)
      rw [e]
      exact exs_ret (f30c _ xs h2)
  · refine run_of rfl rfl ?_
    have td := h.td
    clear h
    generalize TL.run G (n + 1) = C
    cases d <;> first | exact absurd ⟨_, rfl⟩ ht | (simp -implicitDefEqProofs [f3, runFn, isF, isTy, -tyd_d, td]; done)
end K04
namespace K04
open PySem TL
/-! ### what raises -/
def isLs : D → Bool
  | .list _ => true
  | _ => false
theorem isTy_list (d : D) : isTy .list d = isLs d := by cases d <;> rfl
theorem chkL (C : Calls) (d : D) (td : tyd d = true) : runFn C (wrOf G) f1 [.sh d] = if isLs d = true then .ok .none false none else .ex 26 [d] none := by
  cases h : isLs d with
  | true =>
    simp -implicitDefEqProofs [f1, runFn, isTy_list, td, h, ioOf]
  | false =>
    simp -implicitDefEqProofs [f1, runFn, isTy_list, td, h, ioOf]
theorem chkF (C : Calls) (d : D) (b : Bool) (c : C 3 [.sh d] = .ok (.bool b) false none) : runFn C (wrOf G) f4 [.sh d] = if b = true then .ok .none false none else .ex 25 [d] none := by
  have w : wrOf G 3 = false := rfl
  cases b with
  | true => simp -implicitDefEqProofs [f4, runFn, w, c, ioOf]
  | false => simp -implicitDefEqProofs [f4, runFn, w, c, ioOf]
theorem frac1 (C : Calls) (x y : D) (c : C 0 [.sh x] = .ok (.bool false) false none) : runFn C (wrOf G) f6 [.sh x, .sh y] = .ex 24 [x] none := by
  have w : wrOf G 0 = false := rfl
  simp -implicitDefEqProofs [f6, runFn, w, c, ioOf]
theorem frac2 (C : Calls) (x y : D) (c : C 0 [.sh x] = .ok (.bool true) false none) (c2 : C 0 [.sh y] = .ok (.bool false) false none) : runFn C (wrOf G) f6 [.sh x, .sh y] = .ex 24 [y] none := by
  have w : wrOf G 0 = false := rfl
  simp -implicitDefEqProofs [f6, runFn, w, c, c2, ioOf]
theorem frac3 (C : Calls) (x : D) (c : C 0 [.sh x] = .ok (.bool true) false none) (c2 : C 0 [.sh (.int 0)] = .ok (.bool true) false none) : runFn C (wrOf G) f6 [.sh x, .sh (.int 0)] = .ex 24 [.int 0] none := by
  have w : wrOf G 0 = false := rfl
  simp -implicitDefEqProofs [f6, runFn, w, c, c2, ioOf]
theorem frac4 (C : Calls) (x : D) (y : Int) (r : D) (h : y ≠ 0) (c : C 0 [.sh x] = .ok (.bool true) false none) (c2 : C 0 [.sh (.int y)] = .ok (.bool true) false none) (c5 : C 5 [.sh x, .sh (.int y)] = .ok r false none) : runFn C (wrOf G) f6 [.sh x, .sh (.int y)] = .ok r false none := by
  have w : wrOf G 0 = false := rfl
  have w5 : wrOf G 5 = false := rfl
  simp -implicitDefEqProofs [f6, runFn, w, w5, c, c2, c5, h, ioOf]
/-! ### lists of fractions -/
def s10_0 : S := (.ex (.call 1 (.cons (.v 0) .nil)))
def s10b : Ss := (.cons (.ex (.call 4 (.cons (.v 1) .nil))) .nil)
def s10_1 : S := (.for_ (.nm 1) (.seq (.b 0)) s10b)
theorem body10 : f10.body = (.cons s10_0 (.cons s10_1 .nil)) := rfl
theorem b10_ok (C : Calls) (L x : D) (c : C 4 [.sh x] = .ok .none false none) : exs C (wrOf G) s10b [.sh L, .sh x] = .ok .next [.sh L, .sh x] := by
  have w : wrOf G 4 = false := rfl
  simp -implicitDefEqProofs [s10b, w, c]
theorem b10_ex (C : Calls) (L x : D) (c : C 4 [.sh x] = .ex 25 [x] none) : exs C (wrOf G) s10b [.sh L, .sh x] = .ex 25 [x] [.sh L, .sh x] := by
  have w : wrOf G 4 = false := rfl
  simp -implicitDefEqProofs [s10b, w, c]
theorem bind1 (L x : D) {u : Slot} (hu : u.free = true) : bindTg (.nm 1) x [.sh L, u] = some [.sh L, .sh x] := by
  rcases free_cases hu with rfl | ⟨y, rfl⟩ <;> rfl
theorem l10_ok (C : Calls) (L : D) : ∀ (ds : List D) (u : Slot), u.free = true → (∀ x ∈ ds, C 4 [.sh x] = .ok .none false none) → ∃ u', u'.free = true ∧ forLoop (.nm 1) (exs C (wrOf G) s10b) ds [.sh L, u] = .ok .next [.sh L, u']
  | [], u, hu, _ => ⟨u, hu, rfl⟩
  | x :: ds, u, hu, h => by
    obtain ⟨u', f, e⟩ := l10_ok C L ds (.sh x) rfl fun y hy => h y (List.mem_cons_of_mem _ hy)
    refine ⟨u', f, ?_⟩
    rw [forLoop_cons, bind1 L x hu]
    show (exs C (wrOf G) s10b [.sh L, .sh x]).bind _ = _
    rw [b10_ok C L x (h x List.mem_cons_self)]
    exact e
theorem l10_ex (C : Calls) (L y : D) (post : List D) (cy : C 4 [.sh y] = .ex 25 [y] none) : ∀ (ds : List D) (u : Slot), u.free = true → (∀ x ∈ ds, C 4 [.sh x] = .ok .none false none) → forLoop (.nm 1) (exs C (wrOf G) s10b) (ds ++ y :: post) [.sh L, u] = .ex 25 [y] [.sh L, .sh y]
  | [], u, hu, _ => by
    rw [List.nil_append, forLoop_cons, bind1 L y hu]
    show (exs C (wrOf G) s10b [.sh L, .sh y]).bind _ = _
    rw [b10_ex C L y cy]
    rfl
  | x :: ds, u, hu, h => by
    rw [List.cons_append, forLoop_cons, bind1 L x hu]
    show (exs C (wrOf G) s10b [.sh L, .sh x]).bind _ = _
    rw [b10_ok C L x (h x List.mem_cons_self)]
    exact l10_ex C L y post cy ds (.sh x) rfl fun z hz => h z (List.mem_cons_of_mem _ hz)
theorem s100_ok (C : Calls) (L : D) (u : Slot) (c : C 1 [.sh L] = .ok .none false none) : ex C (wrOf G) s10_0 [.sh L, u] = .ok .next [.sh L, u] := by
  have w : wrOf G 1 = false := rfl
  simp -implicitDefEqProofs [s10_0, w, c]
theorem s100_ex (C : Calls) (L : D) (u : Slot) (c : C 1 [.sh L] = .ex 26 [L] none) : ex C (wrOf G) s10_0 [.sh L, u] = .ex 26 [L] [.sh L, u] := by
  have w : wrOf G 1 = false := rfl
  simp -implicitDefEqProofs [s10_0, w, c]
theorem cfs_l (C : Calls) (L : D) (c : C 1 [.sh L] = .ex 26 [L] none) : runFn C (wrOf G) f10 [.sh L] = .ex 26 [L] none :=
  run_exc (g' := [.sh L, .un]) (by rw [body10]; exact exs_exc (s100_ex C L .un c)) rfl
theorem cfs_ex (C : Calls) (ds post : List D) (y : D) (c : C 1 [.sh (.list (ds ++ y :: post))] = .ok .none false none) (h : ∀ x ∈ ds, C 4 [.sh x] = .ok .none false none) (cy : C 4 [.sh y] = .ex 25 [y] none) : runFn C (wrOf G) f10 [.sh (.list (ds ++ y :: post))] = .ex 25 [y] none := by
  have e := l10_ex C (.list (ds ++ y :: post)) y post cy ds .un rfl h
  refine run_exc (g' := [.sh (.list (ds ++ y :: post)), .sh y]) ?_ rfl
  rw [body10]
  refine (exs_step (s100_ok C _ .un c)).trans (exs_exc ?_)
  unfold s10_1
  rw [ex_for, show evIt C (wrOf G) (.seq (.b 0)) [.sh (.list (ds ++ y :: post)), .un] = .ok (ds ++ y :: post, []) [.sh (.list (ds ++ y :: post)), .un] from rfl, bind_okS, lockL_nil, e]
  rfl
theorem cfs_ok (C : Calls) (ds : List D) (c : C 1 [.sh (.list ds)] = .ok .none false none) (h : ∀ x ∈ ds, C 4 [.sh x] = .ok .none false none) : runFn C (wrOf G) f10 [.sh (.list ds)] = .ok .none false none := by
  obtain ⟨u', _, e⟩ := l10_ok C (.list ds) ds .un rfl h
  refine run_fin0 (g' := [.sh (.list ds), u']) ?_ rfl
  rw [body10]
  refine (exs_step (s100_ok C _ .un c)).trans ((exs_step (g' := [.sh (.list ds), u']) ?_).trans rfl)
  unfold s10_1
  rw [ex_for, show evIt C (wrOf G) (.seq (.b 0)) [.sh (.list ds), .un] = .ok (ds, []) [.sh (.list ds), .un] from rfl, bind_okS, lockL_nil, e]
  rfl
/-! ### sum_of, product_of, is_less -/
theorem sum_ex (C : Calls) (L v : D) (k : Nat) (c : C 10 [.sh L] = .ex k [v] none) : runFn C (wrOf G) f11 [.sh L] = .ex k [v] none := by
  have w : wrOf G 10 = false := rfl
  simp -implicitDefEqProofs [f11, runFn, w, c, ioOf]
theorem prd_ex (C : Calls) (L v : D) (k : Nat) (c : C 10 [.sh L] = .ex k [v] none) : runFn C (wrOf G) f12 [.sh L] = .ex k [v] none := by
  have w : wrOf G 10 = false := rfl
  simp -implicitDefEqProofs [f12, runFn, w, c, ioOf]
theorem lss1 (C : Calls) (x y : D) (c : C 4 [.sh x] = .ex 25 [x] none) : runFn C (wrOf G) f13 [.sh x, .sh y] = .ex 25 [x] none := by
  have w : wrOf G 4 = false := rfl
  simp -implicitDefEqProofs [f13, runFn, w, c, ioOf]
theorem lss2 (C : Calls) (x y : D) (c : C 4 [.sh x] = .ok .none false none) (c2 : C 4 [.sh y] = .ex 25 [y] none) : runFn C (wrOf G) f13 [.sh x, .sh y] = .ex 25 [y] none := by
  have w : wrOf G 4 = false := rfl
  simp -implicitDefEqProofs [f13, runFn, w, c, c2, ioOf]
/-! ### the defs as they run -/
section
variable {n : Nat} {d x y : D}
theorem r_cl (td : tyd d = true) (h : isLs d = false) : TL.run G (n + 1) 1 [.sh d] = .ex 26 [d] none := run_of rfl rfl (by rw [chkL _ d td, h]; rfl)
theorem r_clok (ds : List D) : TL.run G (n + 1) 1 [.sh (.list ds)] = .ok .none false none := run_of rfl rfl (chkL _ (.list ds) rfl)
theorem r_cf (s : SmD d) (h : isF d = false) : TL.run G (n + 3) 4 [.sh d] = .ex 25 [d] none := run_of rfl rfl (by have c := isf_ok n s; rw [h] at c; exact chkF _ d _ c)
theorem r_cfok (s : SmD d) (h : isF d = true) : TL.run G (n + 3) 4 [.sh d] = .ok .none false none := run_of rfl rfl (by have c := isf_ok n s; rw [h] at c; exact chkF _ d _ c)
theorem r_cfs_l (td : tyd d = true) (h : isLs d = false) : TL.run G (n + 2) 10 [.sh d] = .ex 26 [d] none := run_of rfl rfl (cfs_l _ d (r_cl td h))
theorem r_cfs_ex (ds post : List D) (hs : ∀ x ∈ ds, SmD x ∧ isF x = true) (s : SmD y) (h : isF y = false) : TL.run G (n + 4) 10 [.sh (.list (ds ++ y :: post))] = .ex 25 [y] none :=
  run_of rfl rfl (cfs_ex _ ds post y (r_clok _) (fun x hx => r_cfok (n := n) (hs x hx).1 (hs x hx).2) (r_cf (n := n) s h))
theorem r_cfs_ok (ds : List D) (hs : ∀ x ∈ ds, SmD x ∧ isF x = true) : TL.run G (n + 4) 10 [.sh (.list ds)] = .ok .none false none :=
  run_of rfl rfl (cfs_ok _ ds (r_clok _) (fun x hx => r_cfok (n := n) (hs x hx).1 (hs x hx).2))
end
end K04
namespace K04
open PySem TL
def pr (a b : Int) : D := .tuple [.int a, .int b]
theorem w6 : wrOf G 6 = false := rfl
theorem w11 : wrOf G 11 = false := rfl
theorem w12 : wrOf G 12 = false := rfl
theorem w13 : wrOf G 13 = false := rfl
theorem z3 : 3 ≤ sizeLine := by decide
theorem z4 : 4 ≤ sizeLine := by decide
theorem z1 : 1 ≤ sizeLine := by decide
/-! ### the doors -/
section
variable (C : Calls) (x v : D) (k : Nat)
theorem dr0 (c : C 6 [.sh x, .sh (.int 0)] = .ex k [v] none) : runFn C (wrOf G) f19 [.sh (.int 0), .sh x] = .ex k [v] none := by
  simp -implicitDefEqProofs [f19, runFn, w6, c, ioOf]
theorem dr1 (c : C 6 [.sh (.int 3), .sh x] = .ex k [v] none) : runFn C (wrOf G) f19 [.sh (.int 1), .sh x] = .ex k [v] none := by
  simp -implicitDefEqProofs [f19, runFn, w6, c, ioOf]
theorem dr1k (r : D) (c : C 6 [.sh (.int 3), .sh x] = .ok r false none) : runFn C (wrOf G) f19 [.sh (.int 1), .sh x] = .ok r false none := by
  simp -implicitDefEqProofs [f19, runFn, w6, c, ioOf]
theorem dr2 (c : C 11 [.sh x] = .ex k [v] none) : runFn C (wrOf G) f19 [.sh (.int 2), .sh x] = .ex k [v] none := by
  simp -implicitDefEqProofs [f19, runFn, w11, c, ioOf]
theorem dr2k (r : D) (c : C 11 [.sh x] = .ok r false none) : runFn C (wrOf G) f19 [.sh (.int 2), .sh x] = .ok r false none := by
  simp -implicitDefEqProofs [f19, runFn, w11, c, ioOf]
theorem dr3 (c : C 11 [.sh (.list [pr 1 2, x, .none])] = .ex k [v] none) : runFn C (wrOf G) f19 [.sh (.int 3), .sh x] = .ex k [v] none := by
  unfold pr at c
  simp -implicitDefEqProofs [f19, runFn, w11, c, ioOf, z2, z3]
theorem dr4 (c : C 12 [.sh x] = .ex k [v] none) : runFn C (wrOf G) f19 [.sh (.int 4), .sh x] = .ex k [v] none := by
  simp -implicitDefEqProofs [f19, runFn, w12, c, ioOf]
theorem dr5 (c : C 12 [.sh (.list [pr 3 1, pr 0 1, x, pr 2 4])] = .ex k [v] none) : runFn C (wrOf G) f19 [.sh (.int 5), .sh x] = .ex k [v] none := by
  unfold pr at c
  simp -implicitDefEqProofs [f19, runFn, w12, c, ioOf, z2, z4]
theorem dr6 (c : C 13 [.sh x, .sh .none] = .ex k [v] none) : runFn C (wrOf G) f19 [.sh (.int 6), .sh x] = .ex k [v] none := by
  simp -implicitDefEqProofs [f19, runFn, w13, c, ioOf]
theorem dr7 (c : C 13 [.sh (pr 1 2), .sh x] = .ex k [v] none) : runFn C (wrOf G) f19 [.sh (.int 7), .sh x] = .ex k [v] none := by
  unfold pr at c
  simp -implicitDefEqProofs [f19, runFn, w13, c, ioOf, z2]
theorem dr8 (c : C 6 [.sh (.int 0), .sh x] = .ex k [v] none) : runFn C (wrOf G) f19 [.sh (.int 8), .sh x] = .ex k [v] none := by
  simp -implicitDefEqProofs [f19, runFn, w6, c, ioOf]
theorem dr9 (P Q : List D) (j m : Int) (hm : 12 - j = m) (hP : binD .Mult (.list [pr 1 3]) (.int j) = some (.list P, true)) (hQ : binD .Mult (.list [pr 1 3]) (.int m) = some (.list Q, true)) (l1 : P.length + 1 ≤ sizeLine) (l2 : P.length + 1 + Q.length ≤ sizeLine) (c : C 11 [.sh (.list (P ++ [x] ++ Q))] = .ex k [v] none) :
    runFn C (wrOf G) f19 [.sh (.int 9), .sh (.tuple [x, .int j])] = .ex k [v] none := by
  unfold pr at hP hQ
  simp -implicitDefEqProofs [-List.append_assoc, -List.cons_append, -b_rep, f19, runFn, w11, c, ioOf, z1, z2, hm, hP, hQ, l1, l2]
theorem dr10 (P Q : List D) (j m : Int) (hm : 12 - j = m) (hP : binD .Mult (.list [pr 1 3]) (.int j) = some (.list P, true)) (hQ : binD .Mult (.list [pr 1 3]) (.int m) = some (.list Q, true)) (l1 : P.length + 1 ≤ sizeLine) (l2 : P.length + 1 + Q.length ≤ sizeLine) (c : C 12 [.sh (.list (P ++ [x] ++ Q))] = .ex k [v] none) :
    runFn C (wrOf G) f19 [.sh (.int 10), .sh (.tuple [x, .int j])] = .ex k [v] none := by
  unfold pr at hP hQ
  simp -implicitDefEqProofs [-List.append_assoc, -List.cons_append, -b_rep, f19, runFn, w12, c, ioOf, z1, z2, hm, hP, hQ, l1, l2]
end
/-! ### _law_caught, _law_alone -/
def kd (a : Nat) : D := .list [.bool (decide (a = 24)), .bool (decide (a = 26)), .bool (decide (a = 25))]
theorem w19 : wrOf G 19 = false := rfl
theorem caughtE (C : Calls) (dr x v : D) (k : Nat) (z : Str) (hk : k = 24 ∨ k = 25 ∨ k = 26) (hr : biD .repr [v] = some (.str z, false)) (c : C 19 [.sh dr, .sh x] = .ex k [v] none) : runFn C (wrOf G) f20 [.sh dr, .sh x] = .ok (.list [kd k, .str z]) true none := by
  rcases hk with rfl | rfl | rfl
  all_goals simp -implicitDefEqProofs [-bi_reprD, f20, runFn, w19, c, ioOf, z2, z3, hr, kd]
theorem caughtO (C : Calls) (dr x r : D) (own : Bool) (c : C 19 [.sh dr, .sh x] = .ok r own none) : runFn C (wrOf G) f20 [.sh dr, .sh x] = .ok (.list [.list [.bool false, .bool false, .bool false], .none]) true none := by
  simp -implicitDefEqProofs [f20, runFn, w19, c, ioOf, z2, z3, isD]
theorem aloneE (C : Calls) (f : Nat) (hw : wrOf G f = false) (c : C f [.sh (.list [pr 2 4])] = .ex 25 [pr 2 4] none) : runFn C (wrOf G) f21 [.sh (fnD f), .sh (pr 2 4)] = .ok (.bool true) false none := by
  have e : cmpD .Eq (.tuple [.int 2, .int 4]) (.tuple [.int 2, .int 4]) = some true := by decide +kernel
  unfold pr at c ⊢
  simp -implicitDefEqProofs [f21, runFn, hw, c, ioOf, z1, e]
end K04
namespace K04
open PySem TL
/-- a value that is handed in -/
structure Hd (d : D) : Prop where
  s : SmD d
  rep : reprOk d = true
  tx : txD d = true
  nf : isF d = false
theorem rep_of {d : D} (h : reprOk d = true) : biD .repr [d] = some (.str d.shown, false) := by rw [bi_reprD, if_pos h]
theorem sm_pr {a b : Int} (h : a.natAbs < 10 ^ 100) (k : b.natAbs < 10 ^ 100) : SmD (pr a b) where
  td := rfl
  ti := fun x y e => by
    unfold pr at e
    cases e
    exact ⟨rfl, rfl⟩
  sm := fun x y e => by
    unfold pr at e
    cases e
    exact ⟨sm_12 h, sm_12 k⟩
theorem sm_none : SmD .none := ⟨rfl, fun _ _ e => (by cases e), fun _ _ e => (by cases e)⟩
theorem sm_int (i : Int) : SmD (.int i) := ⟨rfl, fun _ _ e => (by cases e), fun _ _ e => (by cases e)⟩
theorem q12 : SmD (pr 1 2) ∧ isF (pr 1 2) = true := ⟨sm_pr (by decide) (by decide), by decide +kernel⟩
theorem q13 : SmD (pr 1 3) ∧ isF (pr 1 3) = true := ⟨sm_pr (by decide) (by decide), by decide +kernel⟩
theorem q31 : SmD (pr 3 1) ∧ isF (pr 3 1) = true := ⟨sm_pr (by decide) (by decide), by decide +kernel⟩
theorem q01 : SmD (pr 0 1) ∧ isF (pr 0 1) = true := ⟨sm_pr (by decide) (by decide), by decide +kernel⟩
section
variable {n : Nat} {d : D}
theorem r_w (s : SmD d) : TL.run G (n + 1) 0 [.sh d] = .ok (.bool (isW d)) false none := whole' n d s.td
theorem r6a (s : SmD d) (h : isW d = false) (y : D) : TL.run G (n + 2) 6 [.sh d, .sh y] = .ex 24 [d] none := run_of rfl rfl (frac1 _ d y (by rw [r_w s, h]))
theorem r6b (s : SmD d) (h : isW d = false) (i : Int) : TL.run G (n + 2) 6 [.sh (.int i), .sh d] = .ex 24 [d] none := run_of rfl rfl (frac2 _ (.int i) d (r_w (sm_int i)) (by rw [r_w s, h]))
theorem r6c (i : Int) : TL.run G (n + 2) 6 [.sh (.int i), .sh (.int 0)] = .ex 24 [.int 0] none := run_of rfl rfl (frac3 _ (.int i) (r_w (sm_int i)) (r_w (sm_int 0)))
theorem r11l (td : tyd d = true) (h : isLs d = false) : TL.run G (n + 3) 11 [.sh d] = .ex 26 [d] none := run_of rfl rfl (sum_ex _ d d 26 (r_cfs_l td h))
theorem r12l (td : tyd d = true) (h : isLs d = false) : TL.run G (n + 3) 12 [.sh d] = .ex 26 [d] none := run_of rfl rfl (prd_ex _ d d 26 (r_cfs_l td h))
theorem r11 (ds post : List D) (hs : ∀ x ∈ ds, SmD x ∧ isF x = true) (h : Hd d) : TL.run G (n + 5) 11 [.sh (.list (ds ++ d :: post))] = .ex 25 [d] none := run_of rfl rfl (sum_ex _ _ d 25 (r_cfs_ex ds post hs h.s h.nf))
theorem r12 (ds post : List D) (hs : ∀ x ∈ ds, SmD x ∧ isF x = true) (h : Hd d) : TL.run G (n + 5) 12 [.sh (.list (ds ++ d :: post))] = .ex 25 [d] none := run_of rfl rfl (prd_ex _ _ d 25 (r_cfs_ex ds post hs h.s h.nf))
theorem r13a (h : Hd d) (y : D) : TL.run G (n + 4) 13 [.sh d, .sh y] = .ex 25 [d] none := run_of rfl rfl (lss1 _ d y (r_cf h.s h.nf))
theorem r13b (h : Hd d) (x : D) (hx : SmD x ∧ isF x = true) : TL.run G (n + 4) 13 [.sh x, .sh d] = .ex 25 [d] none := run_of rfl rfl (lss2 _ x d (r_cfok hx.1 hx.2) (r_cf h.s h.nf))
/-- the doors and their classes -/
def cod : Int → Nat := fun k => if k = 0 then 24 else if k = 1 then 26 else 25
def tab : List (Int × Int) := [(0, 0), (1, 0), (2, 1), (3, 2), (4, 1), (5, 2), (6, 2), (7, 2)]
/-- what door and value fit -/
def Fit (door kind : Int) (d : D) : Prop := (kind = 0 → isW d = false ∨ (door = 1 ∧ d = .int 0)) ∧ (kind = 1 → isLs d = false)
theorem call_ok (h : Hd d) {door kind : Int} (m : (door, kind) ∈ tab) (f : Fit door kind d) : TL.run G (n + 6) 19 [.sh (.int door), .sh d] = .ex (cod kind) [d] none := by
  refine run_of rfl rfl ?_
  unfold tab at m
  simp only [List.mem_cons, List.not_mem_nil, or_false, Prod.mk.injEq] at m
  rcases m with ⟨rfl, rfl⟩ | ⟨rfl, rfl⟩ | ⟨rfl, rfl⟩ | ⟨rfl, rfl⟩ | ⟨rfl, rfl⟩ | ⟨rfl, rfl⟩ | ⟨rfl, rfl⟩ | ⟨rfl, rfl⟩
  · refine dr0 _ d d 24 (r6a h.s ?_ _)
    rcases f.1 rfl with z | ⟨z, _⟩
    · exact z
    · cases z
  · refine dr1 _ d d 24 ?_
    rcases f.1 rfl with z | ⟨_, rfl⟩
    · exact r6b h.s z 3
    · exact r6c 3
  · exact dr2 _ d d 26 (r11l h.s.td (f.2 rfl))
  · exact dr3 _ d d 25 (r11 [pr 1 2] [.none] (fun x hx => by rw [List.mem_singleton.mp hx]; exact q12) h)
  · exact dr4 _ d d 26 (r12l h.s.td (f.2 rfl))
  · exact dr5 _ d d 25 (r12 [pr 3 1, pr 0 1] [pr 2 4] (fun x hx => by
      rcases List.mem_cons.mp hx with rfl | hx
      · exact q31
      · rw [List.mem_singleton.mp hx]; exact q01) h)
  · exact dr6 _ d d 25 (r13a h .none)
  · exact dr7 _ d d 25 (r13b h (pr 1 2) q12)
theorem cod_in (k : Int) : cod k = 24 ∨ cod k = 25 ∨ cod k = 26 := by
  unfold cod
  split
  · exact .inl rfl
  · split
    · exact .inr (.inr rfl)
    · exact .inr (.inl rfl)
theorem caught_ok (h : Hd d) {door kind : Int} (m : (door, kind) ∈ tab) (f : Fit door kind d) : TL.run G (n + 7) 20 [.sh (.int door), .sh d] = .ok (.list [kd (cod kind), .str d.shown]) true none :=
  run_of rfl rfl (caughtE _ _ d d (cod kind) _ (cod_in kind) (rep_of h.rep) (call_ok h m f))
theorem caught8 (s : SmD d) (hr : reprOk d = true) (f : isW d = false ∨ d = .int 0) : TL.run G (n + 7) 20 [.sh (.int 8), .sh d] = .ok (.list [kd 24, .str d.shown]) true none := by
  refine run_of rfl rfl (caughtE _ _ d d 24 _ (.inl rfl) (rep_of hr) (run_of rfl rfl (dr8 _ d d 24 ?_)))
  rcases f with z | rfl
  · exact r6b s z 0
  · exact r6c 0
theorem rep13 (j : Nat) (hj : j ≤ 12) : binD .Mult (.list [pr 1 3]) (.int (j : Int)) = some (.list (List.replicate j (pr 1 3)), true) := by
  rw [b_rep, if_pos (by unfold repOk; simp; exact ⟨by omega, Nat.le_trans hj (by decide)⟩)]
  unfold rep
  rw [rep_one]
  rfl
theorem reps_f {j : Nat} : ∀ x ∈ List.replicate j (pr 1 3), SmD x ∧ isF x = true := fun x hx => by rw [(List.mem_replicate.mp hx).2]; exact q13
theorem caught9 (h : Hd d) (j : Nat) (hj : j ≤ 12) {door : Int} (hd : door = 9 ∨ door = 10) : TL.run G (n + 7) 20 [.sh (.int door), .sh (.tuple [d, .int (j : Int)])] = .ok (.list [kd 25, .str d.shown]) true none := by
  have e : (12 : Int) - (j : Int) = ((12 - j : Nat) : Int) := by omega
  have l1 : (List.replicate j (pr 1 3)).length + 1 ≤ sizeLine := by rw [List.length_replicate]; exact big (by omega)
  have l2 : (List.replicate j (pr 1 3)).length + 1 + (List.replicate (12 - j) (pr 1 3)).length ≤ sizeLine := by rw [List.length_replicate, List.length_replicate]; exact big (by omega)
  have q : ∀ (xs ys : List D), xs ++ [d] ++ ys = xs ++ d :: ys := fun xs ys => by rw [List.append_assoc]; rfl
  refine run_of rfl rfl (caughtE _ _ _ d 25 _ (.inr (.inl rfl)) (rep_of h.rep) (run_of rfl rfl ?_))
  rcases hd with rfl | rfl
  · exact dr9 _ d d 25 _ _ (j : Int) _ e (rep13 j hj) (rep13 (12 - j) (by omega)) l1 l2 (by rw [q]; exact r11 _ _ reps_f h)
  · exact dr10 _ d d 25 _ _ (j : Int) _ e (rep13 j hj) (rep13 (12 - j) (by omega)) l1 l2 (by rw [q]; exact r12 _ _ reps_f h)
theorem h24 : Hd (pr 2 4) := ⟨sm_pr (by decide) (by decide), by decide +kernel, rfl, by decide +kernel⟩
theorem alone11 : TL.run G (n + 6) 21 [.sh (fnD 11), .sh (pr 2 4)] = .ok (.bool true) false none := run_of rfl rfl (aloneE _ 11 rfl (r11 [] [] (fun _ hx => by cases hx) h24))
theorem alone12 : TL.run G (n + 6) 21 [.sh (fnD 12), .sh (pr 2 4)] = .ok (.bool true) false none := run_of rfl rfl (aloneE _ 12 rfl (r12 [] [] (fun _ hx => by cases hx) h24))
/-! ### right ones -/
def F3n : D := .list [.list [.bool false, .bool false, .bool false], .none]
theorem good1 {m : Int} (h : m.natAbs < 10 ^ 100) (h0 : m ≠ 0) : TL.run G (n + 7) 20 [.sh (.int 1), .sh (.int m)] = .ok F3n true none :=
  run_of rfl rfl (caughtO _ _ _ _ false (run_of rfl rfl (dr1k _ (.int m) _ (run_of rfl rfl (frac4 _ (.int 3) m _ h0 (r_w (sm_int 3)) (r_w (sm_int m)) (low_ok _ (sm_12 h) h0))))))
theorem no3 (h : SmD d) (hf : isF d = true) : TL.run G (n + 7) 20 [.sh (.int 3), .sh d] = .ok (.list [kd 25, .str "None"]) true none :=
  run_of rfl rfl (caughtE _ _ d .none 25 _ (.inr (.inl rfl)) (by rw [bi_reprD, if_pos (by decide +kernel)]; rfl) (run_of rfl rfl (dr3 _ d .none 25 (r11 (d := .none) [pr 1 2, d] [] (fun x hx => by
    rcases List.mem_cons.mp hx with rfl | hx
    · exact q12
    · rw [List.mem_singleton.mp hx]; exact ⟨h, hf⟩) ⟨sm_none, by decide +kernel, rfl, rfl⟩))))
end
end K04
namespace K04
open PySem TL
/-! ### the strange values -/
def S16 : List D := [.none, .bool true, .bool false, .str "", .str "1", .dict [], .tuple [], .tuple [.str "a"], .list [.int 1, .int 2], .tuple [.int 1, .int 2, .int 3], pr 2 4, pr 1 0, pr 1 (-2), pr 0 2, .tuple [.bool true, .int 2], .tuple [.int 1, .bool true]]
def strg (n : Int) : List D := S16 ++ [pr n n, pr (n * 2) 2]
def smB : D → Bool
  | .int x => decide (x.natAbs < 10 ^ 100)
  | _ => true
def smT (d : D) : Bool := tyd d && (match d with
  | .tuple [a, b] => tyd a && tyd b && smB a && smB b
  | _ => true)
theorem smT_ok {d : D} (h : smT d = true) : SmD d := by
  unfold smT at h
  obtain ⟨h1, h2⟩ := Bool.and_eq_true_iff.mp h
  refine ⟨h1, fun a b e => ?_, fun x y e => ?_⟩
  · subst e
    simp only [Bool.and_eq_true] at h2
    exact ⟨h2.1.1.1, h2.1.1.2⟩
  · subst e
    simp only [Bool.and_eq_true, smB, decide_eq_true_eq] at h2
    exact ⟨sm_12 h2.1.2, sm_12 h2.2⟩
def oddB (d : D) : Bool := (reprOk d && txD d) && smT d && !isF d && !isW d
theorem odd_ok {d : D} (h : oddB d = true) : Hd d ∧ isW d = false := by
  unfold oddB at h
  simp only [Bool.and_eq_true, Bool.not_eq_true'] at h
  exact ⟨⟨smT_ok h.1.1.2, h.1.1.1.1, h.1.1.1.2, h.1.2⟩, h.2⟩
theorem strange16 : S16.all oddB = true := by decide +kernel
def keep (d : D) : Bool := !decide (d.shown = ("(1, 1)" : Str))
theorem one_out : keep (pr 1 1) = false := by decide +kernel
section
variable {n : Int} (h1 : 1 ≤ n) (h2 : n ≤ 10 ^ 9)
include h1 h2
theorem nc_pr {a b : Int} (ha : a.natAbs ≤ 10 ^ 10) (hb : b.natAbs ≤ 10 ^ 10) : reprOk (pr a b) = true :=
  ((Nc.tup (NcA.ints (k := 0) fun d hd => by
    rcases List.mem_cons.mp hd with rfl | hd
    · exact Nc.int (by omega) (by omega)
    · rw [List.mem_singleton.mp hd]; exact Nc.int (by omega) (by omega))).mono (by decide) (by show 2 ≤ 1000000; decide)).repr
theorem rep_i {a : Int} (ha : a.natAbs ≤ 10 ^ 10) : reprOk (.int a) = true := ((Nc.int (by omega) (by omega)).mono (by decide) (by decide)).repr
theorem hd_nn (h : n ≠ 1) : Hd (pr n n) := by
  refine ⟨sm_pr (Nat.lt_of_le_of_lt (show n.natAbs ≤ 10 ^ 9 by omega) (by decide)) (Nat.lt_of_le_of_lt (show n.natAbs ≤ 10 ^ 9 by omega) (by decide)), nc_pr h1 h2 (by omega) (by omega), rfl, ?_⟩
  have g : gg n n = n.natAbs := Nat.gcd_self _
  show (decide (1 ≤ n) && decide (gg n n = 1)) = false
  rw [g, decide_eq_false (show ¬ n.natAbs = 1 by omega), Bool.and_false]
theorem hd_n2 : Hd (pr (n * 2) 2) := by
  refine ⟨sm_pr (Nat.lt_of_le_of_lt (show (n * 2).natAbs ≤ 10 ^ 10 by omega) (by decide)) (by decide), nc_pr h1 h2 (by omega) (by omega), rfl, ?_⟩
  have g : gg (n * 2) 2 = 2 := by
    unfold gg
    rw [Int.natAbs_mul]
    exact Nat.gcd_mul_left_left _ _
  show (decide ((1 : Int) ≤ 2) && decide (gg (n * 2) 2 = 1)) = false
  rw [g]
  rfl
theorem hd_i {a : Int} (ha : a.natAbs ≤ 10 ^ 10) : Hd (.int a) := ⟨sm_int a, rep_i h1 h2 ha, rfl, rfl⟩
theorem strg_rep : ∀ d ∈ strg n, reprOk d = true := fun d hd => by
  rcases List.mem_append.mp hd with hd | hd
  · exact (odd_ok (List.all_eq_true.mp strange16 d hd)).1.rep
  · rcases List.mem_cons.mp hd with rfl | hd
    · exact nc_pr h1 h2 (by omega) (by omega)
    · rw [List.mem_singleton.mp hd]; exact nc_pr h1 h2 (by omega) (by omega)
theorem kept_hd : ∀ d ∈ (strg n).filter keep, Hd d ∧ isW d = false := fun d hd => by
  obtain ⟨hd, k⟩ := List.mem_filter.mp hd
  rcases List.mem_append.mp hd with hd | hd
  · exact odd_ok (List.all_eq_true.mp strange16 d hd)
  · rcases List.mem_cons.mp hd with rfl | hd
    · refine ⟨hd_nn h1 h2 fun e => ?_, rfl⟩
      subst e
      rw [one_out] at k
      cases k
    · rw [List.mem_singleton.mp hd]; exact ⟨hd_n2 h1 h2, rfl⟩
theorem kept_len : ((strg n).filter keep).length ≤ 18 := Nat.le_trans (List.length_filter_le _ _) (Nat.le_refl 18)
end
/-! ### right sums -/
theorem plus1 (C : Calls) (n : Int) (r : D) (m0 : mulOk n 1 = true) (c : C 5 [.sh (.int n), .sh (.int 1)] = .ok r false none) : runFn C (wrOf G) f7 [.sh (pr 0 1), .sh (pr n 1)] = .ok r false none := by
  have w5 : wrOf G 5 = false := rfl
  have m1 : mulOk 0 1 = true := by decide +kernel
  have m2 : mulOk 1 1 = true := by decide +kernel
  unfold pr
  simp -implicitDefEqProofs [f7, runFn, w5, c, m0, m1, m2, ioOf]
theorem sum1 (C : Calls) (x r : D) (c : C 10 [.sh (.list [x])] = .ok .none false none) (c7 : C 7 [.sh (pr 0 1), .sh x] = .ok r false none) : runFn C (wrOf G) f11 [.sh (.list [x])] = .ok r false none := by
  have w10 : wrOf G 10 = false := rfl
  have w7 : wrOf G 7 = false := rfl
  unfold pr at c7
  simp -implicitDefEqProofs [f11, runFn, w10, w7, c, c7, ioOf, z2, forLoop]
theorem good2 {m : Nat} {n : Int} (h1 : 1 ≤ n) (h2 : n ≤ 10 ^ 9) : TL.run G (m + 7) 20 [.sh (.int 2), .sh (.list [pr n 1])] = .ok F3n true none := by
  have q : SmD (pr n 1) ∧ isF (pr n 1) = true := by
    refine ⟨sm_pr (Nat.lt_of_le_of_lt (show n.natAbs ≤ 10 ^ 9 by omega) (by decide)) (by decide), ?_⟩
    have g : gg n 1 = 1 := Nat.gcd_one_right _
    show (decide ((1 : Int) ≤ 1) && decide (gg n 1 = 1)) = true
    rw [g]
    rfl
  refine run_of rfl rfl (caughtO _ _ _ (frD n 1) false (run_of rfl rfl (dr2k _ _ _ (run_of rfl rfl (sum1 _ (pr n 1) (frD n 1) (r_cfs_ok [pr n 1] fun x hx => by rw [List.mem_singleton.mp hx]; exact q) (run_of rfl rfl (plus1 _ n _ (mul30 (by omega) (by omega) (by omega) (by omega)) (low_ok (m + 1) (sm_12 (by decide)) (by decide)))))))))
end K04
namespace K04
open PySem TL
def o0 : S := (.set 2 (.call 16 (.cons (.b 0) (.cons (.b 1) .nil))))
def o1 : S := (.set 3 (.bin .Add (.k (.int 1)) (.call 17 (.cons (.b 2) (.cons (.bin .Pow (.k (.int 10)) (.k (.int 9))) .nil)))))
def o2 : S := (.set 4 (.lst (.cons (.k .none) (.cons (.k (.bool true)) (.cons (.k (.bool false)) (.cons (.k (.str "")) (.cons (.k (.str "1")) (.cons .dct (.cons (.tup .nil) (.cons (.tup (.cons (.k (.str "a")) .nil)) (.cons (.lst (.cons (.k (.int 1)) (.cons (.k (.int 2)) .nil))) (.cons (.tup (.cons (.k (.int 1)) (.cons (.k (.int 2)) (.cons (.k (.int 3)) .nil)))) (.cons (.tup (.cons (.k (.int 2)) (.cons (.k (.int 4)) .nil))) (.cons (.tup (.cons (.k (.int 1)) (.cons (.k (.int 0)) .nil))) (.cons (.tup (.cons (.k (.int 1)) (.cons (.bin .Sub (.k (.int 0)) (.k (.int 2))) .nil))) (.cons (.tup (.cons (.k (.int 0)) (.cons (.k (.int 2)) .nil))) (.cons (.tup (.cons (.k (.bool true)) (.cons (.k (.int 2)) .nil))) (.cons (.tup (.cons (.k (.int 1)) (.cons (.k (.bool true)) .nil))) (.cons (.tup (.cons (.v 3) (.cons (.v 3) .nil))) (.cons (.tup (.cons (.bin .Mult (.b 3) (.k (.int 2))) (.cons (.k (.int 2)) .nil))) .nil))))))))))))))))))))
def o3 : S := (.set 4 (.lc [5] (.nm 5) (.seq (.b 4)) (.cons (.cmp .NotEq (.bi .repr (.cons (.b 5) .nil)) (.k (.str "(1, 1)"))) .nil) (.v 5)))
def o4 : S := (.for_ (.tp [6, 7]) (.enum (.lst (.cons (.k (.int 0)) (.cons (.k (.int 0)) (.cons (.k (.int 1)) (.cons (.k (.int 2)) (.cons (.k (.int 1)) (.cons (.k (.int 2)) (.cons (.k (.int 2)) (.cons (.k (.int 2)) .nil)))))))))) (.cons (.for_ (.nm 5) (.seq (.bin .Add (.bin .Add (.b 4) (.ife (.cmp .Eq (.b 6) (.k (.int 1))) (.lst (.cons (.k (.int 0)) .nil)) (.lst .nil))) (.ife (.cmp .Gt (.b 7) (.k (.int 0))) (.lst (.cons (.v 3) (.cons (.bin .Sub (.k (.int 0)) (.b 3)) (.cons (.k (.int 0)) .nil)))) (.lst .nil)))) (.cons (.ife (.or (.cons (.cmp .NotEq (.b 7) (.k (.int 1))) (.cons (.not (.isi (.b 5) .list)) .nil))) (.cons (.ife (.cmp .NotEq (.call 20 (.cons (.b 6) (.cons (.v 5) .nil))) (.lst (.cons (.lc [8] (.nm 8) (.rng1 (.k (.int 3))) .nil (.cmp .Eq (.b 8) (.b 7))) (.cons (.bi .repr (.cons (.b 5) .nil)) .nil)))) (.cons (.ret (.k (.bool false))) .nil) .nil) .nil) .nil) .nil)) .nil))
def o5 : S := (.for_ (.nm 5) (.seq (.lst (.cons (.k (.int 0)) (.cons (.k .none) (.cons (.k (.bool true)) (.cons (.k (.str "0")) (.cons (.lst (.cons (.k (.int 0)) .nil)) .nil))))))) (.cons (.ife (.cmp .NotEq (.call 20 (.cons (.k (.int 8)) (.cons (.v 5) .nil))) (.lst (.cons (.lst (.cons (.k (.bool true)) (.cons (.k (.bool false)) (.cons (.k (.bool false)) .nil)))) (.cons (.bi .repr (.cons (.b 5) .nil)) .nil)))) (.cons (.ret (.k (.bool false))) .nil) .nil) .nil))
def o6 : S := (.for_ (.nm 5) (.seq (.bin .Add (.b 4) (.lst (.cons (.v 3) .nil)))) (.cons (.for_ (.nm 6) (.seq (.lst (.cons (.k (.int 9)) (.cons (.k (.int 10)) .nil)))) (.cons (.ife (.cmp .NotEq (.call 20 (.cons (.b 6) (.cons (.tup (.cons (.v 5) (.cons (.call 18 (.cons (.b 2) (.cons (.lst (.cons (.k (.int 0)) (.cons (.k (.int 12)) (.cons (.call 17 (.cons (.b 2) (.cons (.k (.int 13)) .nil))) .nil)))) .nil))) .nil))) .nil))) (.lst (.cons (.lst (.cons (.k (.bool false)) (.cons (.k (.bool false)) (.cons (.k (.bool true)) .nil)))) (.cons (.bi .repr (.cons (.b 5) .nil)) .nil)))) (.cons (.ret (.k (.bool false))) .nil) .nil) .nil)) .nil))
def o7 : S := (.for_ (.nm 9) (.seq (.lst (.cons (.fv 11) (.cons (.fv 12) .nil)))) (.cons (.ife (.not (.call 21 (.cons (.b 9) (.cons (.tup (.cons (.k (.int 2)) (.cons (.k (.int 4)) .nil))) .nil)))) (.cons (.ret (.k (.bool false))) .nil) .nil) .nil))
def o8 : S := (.for_ (.tp [6, 10]) (.seq (.lst (.cons (.tup (.cons (.k (.int 1)) (.cons (.bin .Sub (.k (.int 0)) (.b 3)) .nil))) (.cons (.tup (.cons (.k (.int 2)) (.cons (.lst (.cons (.tup (.cons (.v 3) (.cons (.k (.int 1)) .nil))) .nil)) .nil))) .nil)))) (.cons (.ife (.cmp .NotEq (.call 20 (.cons (.b 6) (.cons (.v 10) .nil))) (.lst (.cons (.bin .Mult (.lst (.cons (.k (.bool false)) .nil)) (.k (.int 3))) (.cons (.k .none) .nil)))) (.cons (.ret (.k (.bool false))) .nil) .nil) .nil))
def o9 : S := (.ife (.cmp .NotEq (.call 20 (.cons (.k (.int 3)) (.cons (.tup (.cons (.v 3) (.cons (.k (.int 1)) .nil))) .nil))) (.lst (.cons (.lst (.cons (.k (.bool false)) (.cons (.k (.bool false)) (.cons (.k (.bool true)) .nil)))) (.cons (.bi .repr (.cons (.k .none) .nil)) .nil)))) (.cons (.ret (.k (.bool false))) .nil) .nil)
def oB : Ss := (.cons o0 (.cons o1 (.cons o2 (.cons o3 (.cons o4 (.cons o5 (.cons o6 (.cons o7 (.cons o8 (.cons o9 .nil))))))))))
theorem body22 : f22.body = (.cons (.for_ (.nm 1) (.rng1 (.k (.int 3))) oB) (.cons (.ret (.k (.bool true))) .nil)) := rfl
def e4 : E := (.lc [8] (.nm 8) (.rng1 (.k (.int 3))) .nil (.cmp .Eq (.b 8) (.b 7)))
def i4 : S := (.ife (.or (.cons (.cmp .NotEq (.b 7) (.k (.int 1))) (.cons (.not (.isi (.b 5) .list)) .nil))) (.cons (.ife (.cmp .NotEq (.call 20 (.cons (.b 6) (.cons (.v 5) .nil))) (.lst (.cons e4 (.cons (.bi .repr (.cons (.b 5) .nil)) .nil)))) (.cons (.ret (.k (.bool false))) .nil) .nil) .nil) .nil)
def t4 : E := (.bin .Add (.bin .Add (.b 4) (.ife (.cmp .Eq (.b 6) (.k (.int 1))) (.lst (.cons (.k (.int 0)) .nil)) (.lst .nil))) (.ife (.cmp .Gt (.b 7) (.k (.int 0))) (.lst (.cons (.v 3) (.cons (.bin .Sub (.k (.int 0)) (.b 3)) (.cons (.k (.int 0)) .nil)))) (.lst .nil)))
def b4 : Ss := (.cons (.for_ (.nm 5) (.seq t4) (.cons i4 .nil)) .nil)
def l4 : E := (.lst (.cons (.k (.int 0)) (.cons (.k (.int 0)) (.cons (.k (.int 1)) (.cons (.k (.int 2)) (.cons (.k (.int 1)) (.cons (.k (.int 2)) (.cons (.k (.int 2)) (.cons (.k (.int 2)) .nil)))))))))
theorem o4_eq : o4 = .for_ (.tp [6, 7]) (.enum l4) b4 := rfl
theorem w20 : wrOf G 20 = false := rfl
theorem w21 : wrOf G 21 = false := rfl
theorem w16 : wrOf G 16 = false := rfl
theorem w17 : wrOf G 17 = true := rfl
theorem w18 : wrOf G 18 = true := rfl
/-- the law's frame -/
def fr (A I : D) (g : Slot) (N : D) (st s5 s6 s7 s8 s9 s10 : Slot) : Gv := [.sh A, .sh I, g, .sh N, st, s5, s6, s7, s8, s9, s10]
section
variable (C : Calls) (A I N : D) (g st : Slot)
theorem lc0 (s5 s6 s8 s9 s10 : Slot) : ev C (wrOf G) e4 (fr A I g N st s5 s6 (.sh (.int 0)) s8 s9 s10) = .ok (.val (kd 24) true) (fr A I g N st s5 s6 (.sh (.int 0)) s8 s9 s10) := rfl
theorem lc1 (s5 s6 s8 s9 s10 : Slot) : ev C (wrOf G) e4 (fr A I g N st s5 s6 (.sh (.int 1)) s8 s9 s10) = .ok (.val (kd 26) true) (fr A I g N st s5 s6 (.sh (.int 1)) s8 s9 s10) := rfl
theorem lc2 (s5 s6 s8 s9 s10 : Slot) : ev C (wrOf G) e4 (fr A I g N st s5 s6 (.sh (.int 2)) s8 s9 s10) = .ok (.val (kd 25) true) (fr A I g N st s5 s6 (.sh (.int 2)) s8 s9 s10) := rfl
theorem ne_kd (k : Nat) {z : Str} (hz : PyData.strOk z = true) : cmpD .NotEq (.list [kd k, .str z]) (.list [kd k, .str z]) = some false := ne_selfL (by unfold kd; simp [eqOk, SeqAt.shaped, PyData.canLay0, PyData.canLayAll0, PyData.depth, PyData.depthAll, hz])
theorem i4_skip (d : D) (dr : D) (td : tyd d = true) (hl : isLs d = true) (s8 s9 s10 : Slot) : exs C (wrOf G) (.cons i4 .nil) (fr A I g N st (.sh d) (.sh dr) (.sh (.int 1)) s8 s9 s10) = .ok .next (fr A I g N st (.sh d) (.sh dr) (.sh (.int 1)) s8 s9 s10) := by
  unfold i4 fr
  simp -implicitDefEqProofs [isTy_list, hl, td]
theorem i4_go (d : D) (door kind : Int) (hk : kind = 0 ∨ kind = 1 ∨ kind = 2) (td : tyd d = true) (hl : kind = 1 → isLs d = false) (z : Str) (hz : PyData.strOk z = true) (hr : biD .repr [d] = some (.str z, false)) (c : C 20 [.sh (.int door), .sh d] = .ok (.list [kd (cod kind), .str z]) true none) (s8 s9 s10 : Slot) :
    exs C (wrOf G) (.cons i4 .nil) (fr A I g N st (.sh d) (.sh (.int door)) (.sh (.int kind)) s8 s9 s10) = .ok .next (fr A I g N st (.sh d) (.sh (.int door)) (.sh (.int kind)) s8 s9 s10) := by
  rcases hk with rfl | rfl | rfl
  · have L := lc0 C A I N g st (.sh d) (.sh (.int door)) s8 s9 s10
    have q := ne_kd 24 hz
    unfold fr at L ⊢
    unfold i4
    simp -implicitDefEqProofs [-bi_reprD, isTy_list, td, w20, c, hr, L, z2, q, cod]
  · have L := lc1 C A I N g st (.sh d) (.sh (.int door)) s8 s9 s10
    have q := ne_kd 26 hz
    have hl := hl rfl
    unfold fr at L ⊢
    unfold i4
    simp -implicitDefEqProofs [-bi_reprD, isTy_list, hl, td, w20, c, hr, L, z2, q, cod]
  · have L := lc2 C A I N g st (.sh d) (.sh (.int door)) s8 s9 s10
    have q := ne_kd 25 hz
    unfold fr at L ⊢
    unfold i4
    simp -implicitDefEqProofs [-bi_reprD, isTy_list, td, w20, c, hr, L, z2, q, cod]
end
/-- the values for one door -/
def more (n door kind : Int) : List D := (if door = 1 then [.int 0] else []) ++ (if 0 < kind then [.int n, .int (0 - n), .int 0] else [])
theorem t4_ok (C : Calls) (A I : D) (g : Slot) (n : Int) (xs : List D) (hx : xs.length ≤ 18) (s5 : Slot) (door kind : Int) (s8 s9 s10 : Slot) :
    evIt C (wrOf G) (.seq t4) (fr A I g (.int n) (.ow (.list xs)) s5 (.sh (.int door)) (.sh (.int kind)) s8 s9 s10) = .ok (xs ++ more n door kind, []) (fr A I g (.int n) (.ow (.list xs)) s5 (.sh (.int door)) (.sh (.int kind)) s8 s9 s10) := by
  have l1 : xs.length + 1 ≤ sizeLine := big (by omega)
  have l0 : xs.length ≤ sizeLine := big (by omega)
  have l2 : xs.length + 1 + 3 ≤ sizeLine := big (by omega)
  have l3 : xs.length + 3 ≤ sizeLine := big (by omega)
  have z0 : 0 ≤ sizeLine := by decide
  unfold fr t4 more
  by_cases h : door = 1
  · by_cases k : 0 < kind
    · simp -implicitDefEqProofs [h, k, l1, l2, z1, z3]
    · simp -implicitDefEqProofs [h, k, l1, z1, z0]
  · by_cases k : 0 < kind
    · simp -implicitDefEqProofs [h, k, l0, l3, z3, z0]
    · simp -implicitDefEqProofs [h, k, l0, z0]
theorem more_hd {n : Int} (h1 : 1 ≤ n) (h2 : n ≤ 10 ^ 9) {door kind : Int} : ∀ d ∈ more n door kind, Hd d ∧ isLs d = false ∧ (isW d = false ∨ kind > 0 ∨ (door = 1 ∧ d = .int 0)) := fun d hd => by
  unfold more at hd
  rcases List.mem_append.mp hd with hd | hd
  · by_cases h : door = 1
    · rw [if_pos h] at hd
      rw [List.mem_singleton.mp hd]
      exact ⟨hd_i h1 h2 (by decide), rfl, .inr (.inr ⟨h, rfl⟩)⟩
    · rw [if_neg h] at hd; cases hd
  · by_cases h : 0 < kind
    · rw [if_pos h] at hd
      have k : Hd d ∧ isLs d = false := by
        rcases List.mem_cons.mp hd with rfl | hd
        · exact ⟨hd_i h1 h2 (by omega), rfl⟩
        · rcases List.mem_cons.mp hd with rfl | hd
          · exact ⟨hd_i h1 h2 (by omega), rfl⟩
          · rw [List.mem_singleton.mp hd]; exact ⟨hd_i h1 h2 (by decide), rfl⟩
      exact ⟨k.1, k.2, .inr (.inl h)⟩
    · rw [if_neg h] at hd; cases hd
/-- the frame between the statements -/
def Fr (A I : D) (g : Slot) (n : Int) (xs : List D) (f : Gv) : Prop := ∃ s5 s6 s7 s8 s9 s10 : Slot, s5.free = true ∧ s6.free = true ∧ s7.free = true ∧ s8.free = true ∧ s9.free = true ∧ s10.free = true ∧ f = fr A I g (.int n) (.ow (.list xs)) s5 s6 s7 s8 s9 s10
theorem tab_k {door kind : Int} (h : (door, kind) ∈ tab) : kind = 0 ∨ kind = 1 ∨ kind = 2 := by
  unfold tab at h
  simp only [List.mem_cons, List.not_mem_nil, or_false, Prod.mk.injEq] at h
  omega
theorem bind5 (A I : D) (g : Slot) (N : D) (st s5 s6 s7 s8 s9 s10 : Slot) (h : s5.free = true) (d : D) : bindTg (.nm 5) d (fr A I g N st s5 s6 s7 s8 s9 s10) = some (fr A I g N st (.sh d) s6 s7 s8 s9 s10) := by
  rcases free_cases h with rfl | ⟨x, rfl⟩ <;> rfl
theorem in4 (m : Nat) (A I : D) (g : Slot) {n : Int} (h1 : 1 ≤ n) (h2 : n ≤ 10 ^ 9) {door kind : Int} (ht : (door, kind) ∈ tab) (f : Gv) (s8 s9 s10 : Slot) (k8 : s8.free = true) (k9 : s9.free = true) (k10 : s10.free = true) (s5 : Slot) (k5 : s5.free = true)
    (hf : f = fr A I g (.int n) (.ow (.list ((strg n).filter keep))) s5 (.sh (.int door)) (.sh (.int kind)) s8 s9 s10) : ∃ f', exs (TL.run G (m + 7)) (wrOf G) b4 f = .ok .next f' ∧ Fr A I g n ((strg n).filter keep) f' := by
  subst hf
  obtain ⟨f', e, s5', k5', rfl⟩ := for_inv (tg := .nm 5) (body := exs (TL.run G (m + 7)) (wrOf G) (.cons i4 .nil)) (fun f => ∃ s5 : Slot, s5.free = true ∧ f = fr A I g (.int n) (.ow (.list ((strg n).filter keep))) s5 (.sh (.int door)) (.sh (.int kind)) s8 s9 s10)
    ((strg n).filter keep ++ more n door kind) _ (fun d hd f ⟨s5, k5, hf⟩ => by
      subst hf
      have H : Hd d ∧ (kind = 0 → isW d = false ∨ (door = 1 ∧ d = .int 0)) := by
        rcases List.mem_append.mp hd with hd | hd
        · have := kept_hd h1 h2 d hd
          exact ⟨this.1, fun _ => .inl this.2⟩
        · obtain ⟨a, b, c⟩ := more_hd h1 h2 d hd
          refine ⟨a, fun z => ?_⟩
          rcases c with c | c | c
          · exact .inl c
          · omega
          · exact .inr c
      refine ⟨_, _, bind5 A I g _ _ s5 _ _ s8 s9 s10 k5 d, .inl ?_, .sh d, rfl, rfl⟩
      by_cases z : kind = 1 ∧ isLs d = true
      · obtain ⟨z, hl⟩ := z
        subst z
        exact i4_skip _ A I _ g _ d _ H.1.s.td hl s8 s9 s10
      · have hl : kind = 1 → isLs d = false := fun e => by
          cases q : isLs d with
          | false => rfl
          | true => exact absurd ⟨e, q⟩ z
        exact i4_go _ A I _ g _ d door kind (tab_k ht) H.1.s.td hl _ (shown_ok d H.1.tx) (rep_of H.1.rep) (caught_ok H.1 ht ⟨H.2, hl⟩) s8 s9 s10) ⟨s5, k5, rfl⟩
  refine ⟨_, ?_, s5', .sh (.int door), .sh (.int kind), s8, s9, s10, k5', rfl, rfl, k8, k9, k10, rfl⟩
  unfold b4
  rw [exs_cons, ex_for, t4_ok _ A I g n _ (kept_len h1 h2) s5 door kind s8 s9 s10, bind_okS, lockL_nil, e]
  rfl
def P8 : List D := [.tuple [.int 0, .int 0], .tuple [.int 1, .int 0], .tuple [.int 2, .int 1], .tuple [.int 3, .int 2], .tuple [.int 4, .int 1], .tuple [.int 5, .int 2], .tuple [.int 6, .int 2], .tuple [.int 7, .int 2]]
theorem p8_tab : ∀ d ∈ P8, ∃ door kind : Int, d = .tuple [.int door, .int kind] ∧ (door, kind) ∈ tab := fun d hd => by
  unfold P8 at hd
  simp only [List.mem_cons, List.not_mem_nil, or_false] at hd
  rcases hd with rfl | rfl | rfl | rfl | rfl | rfl | rfl | rfl <;> exact ⟨_, _, rfl, by simp [tab]⟩
theorem it4 (C : Calls) (f : Gv) : evIt C (wrOf G) (.enum l4) f = .ok (P8, []) f := rfl
theorem st4 (m : Nat) (A I : D) (g : Slot) {n : Int} (h1 : 1 ≤ n) (h2 : n ≤ 10 ^ 9) (f : Gv) (hf : Fr A I g n ((strg n).filter keep) f) : ∃ f', ex (TL.run G (m + 7)) (wrOf G) o4 f = .ok .next f' ∧ Fr A I g n ((strg n).filter keep) f' := by
  obtain ⟨f', e, i⟩ := for_inv (tg := .tp [6, 7]) (body := exs (TL.run G (m + 7)) (wrOf G) b4) (Fr A I g n ((strg n).filter keep)) P8 f (fun d hd f hf => by
    obtain ⟨door, kind, rfl, ht⟩ := p8_tab d hd
    obtain ⟨s5, s6, s7, s8, s9, s10, k5, k6, k7, k8, k9, k10, rfl⟩ := hf
    have b : bindTg (.tp [6, 7]) (.tuple [.int door, .int kind]) (fr A I g (.int n) (.ow (.list ((strg n).filter keep))) s5 s6 s7 s8 s9 s10) = some (fr A I g (.int n) (.ow (.list ((strg n).filter keep))) s5 (.sh (.int door)) (.sh (.int kind)) s8 s9 s10) := by
      rcases free_cases k6 with rfl | ⟨x, rfl⟩ <;> rcases free_cases k7 with rfl | ⟨y, rfl⟩ <;> rfl
    obtain ⟨f', e, i⟩ := in4 m A I g h1 h2 ht _ s8 s9 s10 k8 k9 k10 s5 k5 rfl
    exact ⟨_, f', b, .inl e, i⟩) hf
  refine ⟨f', ?_, i⟩
  rw [o4_eq, ex_for, it4, bind_okS, lockL_nil, e]
  rfl
end K04
namespace K04
open PySem TL
/-! ### o5 -/
def b5 : Ss := (.cons (.ife (.cmp .NotEq (.call 20 (.cons (.k (.int 8)) (.cons (.v 5) .nil))) (.lst (.cons (.lst (.cons (.k (.bool true)) (.cons (.k (.bool false)) (.cons (.k (.bool false)) .nil)))) (.cons (.bi .repr (.cons (.b 5) .nil)) .nil)))) (.cons (.ret (.k (.bool false))) .nil) .nil) .nil)
def l5 : E := (.lst (.cons (.k (.int 0)) (.cons (.k .none) (.cons (.k (.bool true)) (.cons (.k (.str "0")) (.cons (.lst (.cons (.k (.int 0)) .nil)) .nil))))))
def P5 : List D := [.int 0, .none, .bool true, .str "0", .list [.int 0]]
theorem o5_eq : o5 = .for_ (.nm 5) (.seq l5) b5 := rfl
theorem it5 (C : Calls) (A I : D) (g : Slot) (N : D) (st s5 s6 s7 s8 s9 s10 : Slot) : evIt C (wrOf G) (.seq l5) (fr A I g N st s5 s6 s7 s8 s9 s10) = .ok (P5, []) (fr A I g N st s5 s6 s7 s8 s9 s10) := rfl
theorem b5_ok (C : Calls) (A I : D) (g : Slot) (N : D) (st s6 s7 s8 s9 s10 : Slot) (d : D) (z : Str) (hz : PyData.strOk z = true) (hr : biD .repr [d] = some (.str z, false)) (c : C 20 [.sh (.int 8), .sh d] = .ok (.list [kd 24, .str z]) true none) : exs C (wrOf G) b5 (fr A I g N st (.sh d) s6 s7 s8 s9 s10) = .ok .next (fr A I g N st (.sh d) s6 s7 s8 s9 s10) := by
  have q := ne_kd 24 hz
  have e : kd 24 = .list [.bool true, .bool false, .bool false] := rfl
  rw [e] at q c
  unfold fr b5
  simp -implicitDefEqProofs [-bi_reprD, w20, c, hr, z2, z3, q]
theorem p5_ok : ∀ d ∈ P5, SmD d ∧ reprOk d = true ∧ txD d = true ∧ (isW d = false ∨ d = .int 0) := fun d hd => by
  have a : P5.all (fun d => smT d && (reprOk d && txD d)) = true := by decide +kernel
  have q := List.all_eq_true.mp a d hd
  obtain ⟨q1, q2⟩ := Bool.and_eq_true_iff.mp q
  obtain ⟨q2, q3⟩ := Bool.and_eq_true_iff.mp q2
  refine ⟨smT_ok q1, q2, q3, ?_⟩
  unfold P5 at hd
  simp only [List.mem_cons, List.not_mem_nil, or_false] at hd
  rcases hd with rfl | rfl | rfl | rfl | rfl
  · exact .inr rfl
  all_goals exact .inl rfl
theorem st5 (m : Nat) (A I : D) (g : Slot) {n : Int} {xs : List D} (f : Gv) (hf : Fr A I g n xs f) : ∃ f', ex (TL.run G (m + 7)) (wrOf G) o5 f = .ok .next f' ∧ Fr A I g n xs f' := by
  obtain ⟨f', e, i⟩ := for_inv (tg := .nm 5) (body := exs (TL.run G (m + 7)) (wrOf G) b5) (Fr A I g n xs) P5 f (fun d hd f hf => by
    obtain ⟨s5, s6, s7, s8, s9, s10, k5, k6, k7, k8, k9, k10, rfl⟩ := hf
    obtain ⟨p1, p2, p4, p3⟩ := p5_ok d hd
    exact ⟨_, _, bind5 A I g _ _ s5 s6 s7 s8 s9 s10 k5 d, .inl (b5_ok _ A I g _ _ s6 s7 s8 s9 s10 d _ (shown_ok d p4) (rep_of p2) (caught8 p1 p2 p3)), .sh d, s6, s7, s8, s9, s10, rfl, k6, k7, k8, k9, k10, rfl⟩) hf
  refine ⟨f', ?_, i⟩
  obtain ⟨s5, s6, s7, s8, s9, s10, k5, k6, k7, k8, k9, k10, rfl⟩ := hf
  rw [o5_eq, ex_for, it5, bind_okS, lockL_nil, e]
  rfl
/-! ### o6 -/
def cc6 : Ss := (.cons (.ife (.cmp .NotEq (.call 20 (.cons (.b 6) (.cons (.tup (.cons (.v 5) (.cons (.call 18 (.cons (.b 2) (.cons (.lst (.cons (.k (.int 0)) (.cons (.k (.int 12)) (.cons (.call 17 (.cons (.b 2) (.cons (.k (.int 13)) .nil))) .nil)))) .nil))) .nil))) .nil))) (.lst (.cons (.lst (.cons (.k (.bool false)) (.cons (.k (.bool false)) (.cons (.k (.bool true)) .nil)))) (.cons (.bi .repr (.cons (.b 5) .nil)) .nil)))) (.cons (.ret (.k (.bool false))) .nil) .nil) .nil)
def b6 : Ss := (.cons (.for_ (.nm 6) (.seq (.lst (.cons (.k (.int 9)) (.cons (.k (.int 10)) .nil)))) cc6) .nil)
theorem o6_eq : o6 = .for_ (.nm 5) (.seq (.bin .Add (.b 4) (.lst (.cons (.v 3) .nil)))) b6 := rfl
theorem c6_ok (C : Calls) (A I d g0 g1 g2 : D) (N : D) (st s7 s8 s9 s10 : Slot) (door j r : Int) (z : Str) (hz : PyData.strOk z = true) (hr : biD .repr [d] = some (.str z, false)) (c17 : C 17 [.io g0, .sh (.int 13)] = .ok (.int r) false (some g1)) (c18 : C 18 [.io g1, .sh (.list [.int 0, .int 12, .int r])] = .ok (.int j) false (some g2))
    (c : C 20 [.sh (.int door), .sh (.tuple [d, .int j])] = .ok (.list [kd 25, .str z]) true none) : exs C (wrOf G) cc6 (fr A I (.ow g0) N st (.sh d) (.sh (.int door)) s7 s8 s9 s10) = .ok .next (fr A I (.ow g2) N st (.sh d) (.sh (.int door)) s7 s8 s9 s10) := by
  have q := ne_kd 25 hz
  have e : kd 25 = .list [.bool false, .bool false, .bool true] := rfl
  rw [e] at q c
  unfold fr cc6
  simp -implicitDefEqProofs [-bi_reprD, w20, w17, w18, c17, c18, c, hr, z2, z3, q]
theorem pickC (C : Calls) (g0 g1 x : D) (r j : Int) (hx : L2.atI [.int 0, .int 12, .int r] j = some x) (c : C 17 [.io g0, .sh (.int 3)] = .ok (.int j) false (some g1)) : runFn C (wrOf G) f18 [.io g0, .sh (.list [.int 0, .int 12, .int r])] = .ok x false (some g1) := by
  simp -implicitDefEqProofs [-at_0, -at_1, -at_2, f18, runFn, w17, c, hx, ioOf]
theorem pick3 (m : Nat) {K : Nat} {g0 : D} (g : Gen K g0) (hK : K ≤ 10 ^ 10) {r : Int} (r0 : 0 ≤ r) (r1 : r < 13) : ∃ (j : Nat) (g1 : D), j ≤ 12 ∧ Gen (K + 20) g1 ∧ TL.run G (m + 3) 18 [.io g0, .sh (.list [.int 0, .int 12, .int r])] = .ok (.int (j : Int)) false (some g1) := by
  obtain ⟨z, d', e, z0, z1, g'⟩ := rand_ok (G := G) (n := m) (i := 17) (h := 14) rfl rfl g (by omega) (m := 3) (by omega) (by decide)
  have three : z = 0 ∨ z = 1 ∨ z = 2 := by omega
  rcases three with rfl | rfl | rfl
  · exact ⟨0, d', by omega, g', run_of rfl rfl (pickC _ _ _ _ r 0 rfl e)⟩
  · exact ⟨12, d', by omega, g', run_of rfl rfl (pickC _ _ _ _ r 1 rfl e)⟩
  · refine ⟨r.toNat, d', by omega, g', run_of rfl rfl (pickC _ _ _ _ r 2 ?_ e)⟩
    rw [show ((r.toNat : Nat) : Int) = r by omega]
    rfl
theorem bind6 (A I : D) (g : Slot) (N : D) (st s5 s6 s7 s8 s9 s10 : Slot) (h : s6.free = true) (d : D) : bindTg (.nm 6) d (fr A I g N st s5 s6 s7 s8 s9 s10) = some (fr A I g N st s5 (.sh d) s7 s8 s9 s10) := by
  rcases free_cases h with rfl | ⟨x, rfl⟩ <;> rfl
theorem turn6 (m : Nat) (A I : D) {N : D} {d : D} (h : Hd d) {K : Nat} {g0 : D} (g : Gen K g0) (hK : K ≤ 10 ^ 9) {door : Int} (hd : door = 9 ∨ door = 10) (st s7 s8 s9 s10 : Slot) :
    ∃ g2, Gen (K + 40) g2 ∧ exs (TL.run G (m + 7)) (wrOf G) cc6 (fr A I (.ow g0) N st (.sh d) (.sh (.int door)) s7 s8 s9 s10) = .ok .next (fr A I (.ow g2) N st (.sh d) (.sh (.int door)) s7 s8 s9 s10) := by
  obtain ⟨r, g1, e, r0, r1, gg1⟩ := rand_ok (G := G) (n := m + 5) (i := 17) (h := 14) rfl rfl g (by omega) (m := 13) (by omega) (by decide)
  obtain ⟨j, g2, hj, gg2, e2⟩ := pick3 (m + 4) gg1 (by omega) r0 r1
  exact ⟨g2, gg2, c6_ok _ A I d g0 g1 g2 N st s7 s8 s9 s10 door j r _ (shown_ok d h.tx) (rep_of h.rep) e e2 (caught9 h j hj hd)⟩
def Fg (A I : D) (n : Int) (xs : List D) (K : Nat) (f : Gv) : Prop := ∃ g : D, Gen K g ∧ Fr A I (.ow g) n xs f
theorem in6 (m : Nat) (A I : D) {n : Int} {xs : List D} {d : D} (h : Hd d) {K : Nat} (hK : K ≤ 10 ^ 8) {g0 : D} (g : Gen K g0) (s6 s7 s8 s9 s10 : Slot) (k6 : s6.free = true) (k7 : s7.free = true) (k8 : s8.free = true) (k9 : s9.free = true) (k10 : s10.free = true) :
    ∃ f', exs (TL.run G (m + 7)) (wrOf G) b6 (fr A I (.ow g0) (.int n) (.ow (.list xs)) (.sh d) s6 s7 s8 s9 s10) = .ok .next f' ∧ Fg A I n xs (K + 80) f' := by
  obtain ⟨g1, gg1, e1⟩ := turn6 m A I (N := .int n) h g (by omega) (.inl rfl) (.ow (.list xs)) s7 s8 s9 s10
  obtain ⟨g2, gg2, e2⟩ := turn6 m A I (N := .int n) h gg1 (by omega) (.inr rfl) (.ow (.list xs)) s7 s8 s9 s10
  refine ⟨fr A I (.ow g2) (.int n) (.ow (.list xs)) (.sh d) (.sh (.int 10)) s7 s8 s9 s10, ?_, g2, gg2, .sh d, .sh (.int 10), s7, s8, s9, s10, rfl, rfl, k7, k8, k9, k10, rfl⟩
  unfold b6
  rw [exs_cons, ex_for, show evIt (TL.run G (m + 7)) (wrOf G) (.seq (.lst (.cons (.k (.int 9)) (.cons (.k (.int 10)) .nil)))) (fr A I (.ow g0) (.int n) (.ow (.list xs)) (.sh d) s6 s7 s8 s9 s10) = .ok ([.int 9, .int 10], []) (fr A I (.ow g0) (.int n) (.ow (.list xs)) (.sh d) s6 s7 s8 s9 s10) from rfl, bind_okS, lockL_nil, forLoop_cons, bind6 A I _ _ _ _ s6 s7 s8 s9 s10 k6]
  show (((exs (TL.run G (m + 7)) (wrOf G) cc6 _).bind _).unlock []).bind _ = _
  rw [e1, bind_okS, turn_next, forLoop_cons, bind6 A I _ _ _ _ _ s7 s8 s9 s10 rfl]
  show (((exs (TL.run G (m + 7)) (wrOf G) cc6 _).bind _).unlock []).bind _ = _
  rw [e2]
  rfl
theorem it6 (C : Calls) (A I : D) (g : Slot) (n : Int) (xs : List D) (hx : xs.length ≤ 18) (s5 s6 s7 s8 s9 s10 : Slot) : evIt C (wrOf G) (.seq (.bin .Add (.b 4) (.lst (.cons (.v 3) .nil)))) (fr A I g (.int n) (.ow (.list xs)) s5 s6 s7 s8 s9 s10) = .ok (xs ++ [.int n], []) (fr A I g (.int n) (.ow (.list xs)) s5 s6 s7 s8 s9 s10) := by
  have l1 : xs.length + 1 ≤ sizeLine := big (by omega)
  unfold fr
  simp -implicitDefEqProofs [l1, z1]
theorem st6 (m : Nat) (A I : D) {n : Int} (h1 : 1 ≤ n) (h2 : n ≤ 10 ^ 9) (K : Nat) (hK : K ≤ 10 ^ 7) (f : Gv) (hf : Fg A I n ((strg n).filter keep) K f) : ∃ f', ex (TL.run G (m + 7)) (wrOf G) o6 f = .ok .next f' ∧ Fg A I n ((strg n).filter keep) (K + 10 ^ 5) f' := by
  have kl := kept_len h1 h2
  have ln : ((strg n).filter keep ++ [PyData.int n]).length ≤ 19 := by rw [List.length_append]; show _ + 1 ≤ 19; omega
  obtain ⟨f', e, g', gg', i⟩ := for_ix (tg := .nm 5) (body := exs (TL.run G (m + 7)) (wrOf G) b6) (fun j f => Fg A I n ((strg n).filter keep) (K + 80 * j) f) ((strg n).filter keep ++ [PyData.int n]) 0 f (fun d hd j f _ hj hf => by
    obtain ⟨g0, g, s5, s6, s7, s8, s9, s10, k5, k6, k7, k8, k9, k10, rfl⟩ := hf
    have H : Hd d := by
      rcases List.mem_append.mp hd with hd | hd
      · exact (kept_hd h1 h2 d hd).1
      · rw [List.mem_singleton.mp hd]; exact hd_i h1 h2 (by omega)
    obtain ⟨f', e, i⟩ := in6 m A I (n := n) (xs := (strg n).filter keep) H (K := K + 80 * j) (by omega) g s6 s7 s8 s9 s10 k6 k7 k8 k9 k10
    exact ⟨_, f', bind5 A I _ _ _ s5 s6 s7 s8 s9 s10 k5 d, .inl e, i⟩) hf
  refine ⟨f', ?_, g', gg'.mono (by omega), i⟩
  obtain ⟨g0, g, s5, s6, s7, s8, s9, s10, k5, k6, k7, k8, k9, k10, rfl⟩ := hf
  rw [o6_eq, ex_for, it6 _ A I _ n _ kl, bind_okS, lockL_nil, e]
  rfl
/-! ### o7, o8, o9 -/
def b7 : Ss := (.cons (.ife (.not (.call 21 (.cons (.b 9) (.cons (.tup (.cons (.k (.int 2)) (.cons (.k (.int 4)) .nil))) .nil)))) (.cons (.ret (.k (.bool false))) .nil) .nil) .nil)
theorem o7_eq : o7 = .for_ (.nm 9) (.seq (.lst (.cons (.fv 11) (.cons (.fv 12) .nil)))) b7 := rfl
theorem b7_ok (C : Calls) (A I : D) (g : Slot) (N : D) (st s5 s6 s7 s8 s10 : Slot) (f : Nat) (c : C 21 [.sh (fnD f), .sh (pr 2 4)] = .ok (.bool true) false none) : exs C (wrOf G) b7 (fr A I g N st s5 s6 s7 s8 (.sh (fnD f)) s10) = .ok .next (fr A I g N st s5 s6 s7 s8 (.sh (fnD f)) s10) := by
  unfold pr at c
  unfold fr b7
  simp -implicitDefEqProofs [w21, c, z2]
theorem bind9 (A I : D) (g : Slot) (N : D) (st s5 s6 s7 s8 s9 s10 : Slot) (h : s9.free = true) (d : D) : bindTg (.nm 9) d (fr A I g N st s5 s6 s7 s8 s9 s10) = some (fr A I g N st s5 s6 s7 s8 (.sh d) s10) := by
  rcases free_cases h with rfl | ⟨x, rfl⟩ <;> rfl
theorem st7 (m : Nat) (A I : D) (g : Slot) {n : Int} {xs : List D} (f : Gv) (hf : Fr A I g n xs f) : ∃ f', ex (TL.run G (m + 7)) (wrOf G) o7 f = .ok .next f' ∧ Fr A I g n xs f' := by
  obtain ⟨f', e, i⟩ := for_inv (tg := .nm 9) (body := exs (TL.run G (m + 7)) (wrOf G) b7) (Fr A I g n xs) [fnD 11, fnD 12] f (fun d hd f hf => by
    obtain ⟨s5, s6, s7, s8, s9, s10, k5, k6, k7, k8, k9, k10, rfl⟩ := hf
    have c : ∃ k, d = fnD k ∧ TL.run G (m + 7) 21 [.sh (fnD k), .sh (pr 2 4)] = .ok (.bool true) false none := by
      rcases List.mem_cons.mp hd with rfl | hd
      · exact ⟨11, rfl, alone11⟩
      · rw [List.mem_singleton.mp hd]; exact ⟨12, rfl, alone12⟩
    obtain ⟨k, rfl, c⟩ := c
    exact ⟨_, _, bind9 A I g _ _ s5 s6 s7 s8 s9 s10 k9 _, .inl (b7_ok _ A I g _ _ s5 s6 s7 s8 s10 k c), s5, s6, s7, s8, .sh (fnD k), s10, k5, k6, k7, k8, rfl, k10, rfl⟩) hf
  refine ⟨f', ?_, i⟩
  obtain ⟨s5, s6, s7, s8, s9, s10, k5, k6, k7, k8, k9, k10, rfl⟩ := hf
  rw [o7_eq, ex_for, show evIt (TL.run G (m + 7)) (wrOf G) (.seq (.lst (.cons (.fv 11) (.cons (.fv 12) .nil)))) (fr A I g (.int n) (.ow (.list xs)) s5 s6 s7 s8 s9 s10) = .ok ([fnD 11, fnD 12], []) (fr A I g (.int n) (.ow (.list xs)) s5 s6 s7 s8 s9 s10) from rfl, bind_okS, lockL_nil, e]
  rfl
def b8 : Ss := (.cons (.ife (.cmp .NotEq (.call 20 (.cons (.b 6) (.cons (.v 10) .nil))) (.lst (.cons (.bin .Mult (.lst (.cons (.k (.bool false)) .nil)) (.k (.int 3))) (.cons (.k .none) .nil)))) (.cons (.ret (.k (.bool false))) .nil) .nil) .nil)
def l8 : E := (.lst (.cons (.tup (.cons (.k (.int 1)) (.cons (.bin .Sub (.k (.int 0)) (.b 3)) .nil))) (.cons (.tup (.cons (.k (.int 2)) (.cons (.lst (.cons (.tup (.cons (.v 3) (.cons (.k (.int 1)) .nil))) .nil)) .nil))) .nil)))
theorem o8_eq : o8 = .for_ (.tp [6, 10]) (.seq l8) b8 := rfl
theorem b8_ok (C : Calls) (A I : D) (g : Slot) (N : D) (st s5 s7 s8 s9 : Slot) (door : Int) (d : D) (c : C 20 [.sh (.int door), .sh d] = .ok F3n true none) : exs C (wrOf G) b8 (fr A I g N st s5 (.sh (.int door)) s7 s8 s9 (.sh d)) = .ok .next (fr A I g N st s5 (.sh (.int door)) s7 s8 s9 (.sh d)) := by
  have q : cmpD .NotEq (.list [.list [.bool false, .bool false, .bool false], .none]) (.list [.list [.bool false, .bool false, .bool false], .none]) = some false := ne_selfL (by decide +kernel)
  have b : binD .Mult (.list [.bool false]) (.int 3) = some (.list [.bool false, .bool false, .bool false], true) := by rw [b_rep, if_pos (by decide +kernel)]; rfl
  unfold F3n at c
  unfold fr b8
  simp -implicitDefEqProofs [-b_rep, w20, c, z2, z1, q, b]
theorem it8 (C : Calls) (A I : D) (g : Slot) (n : Int) (st s5 s6 s7 s8 s9 s10 : Slot) : evIt C (wrOf G) (.seq l8) (fr A I g (.int n) st s5 s6 s7 s8 s9 s10) = .ok ([.tuple [.int 1, .int (0 - n)], .tuple [.int 2, .list [pr n 1]]], []) (fr A I g (.int n) st s5 s6 s7 s8 s9 s10) := by
  unfold fr l8 pr
  simp -implicitDefEqProofs [z1, z2]
theorem st8 (m : Nat) (A I : D) (g : Slot) {n : Int} (h1 : 1 ≤ n) (h2 : n ≤ 10 ^ 9) {xs : List D} (f : Gv) (hf : Fr A I g n xs f) : ∃ f', ex (TL.run G (m + 7)) (wrOf G) o8 f = .ok .next f' ∧ Fr A I g n xs f' := by
  obtain ⟨f', e, i⟩ := for_inv (tg := .tp [6, 10]) (body := exs (TL.run G (m + 7)) (wrOf G) b8) (Fr A I g n xs) [.tuple [.int 1, .int (0 - n)], .tuple [.int 2, .list [pr n 1]]] f (fun d hd f hf => by
    obtain ⟨s5, s6, s7, s8, s9, s10, k5, k6, k7, k8, k9, k10, rfl⟩ := hf
    have c : ∃ door x, d = .tuple [.int door, x] ∧ TL.run G (m + 7) 20 [.sh (.int door), .sh x] = .ok F3n true none := by
      rcases List.mem_cons.mp hd with rfl | hd
      · exact ⟨1, _, rfl, good1 (Nat.lt_of_le_of_lt (show (0 - n).natAbs ≤ 10 ^ 9 by omega) (by decide)) (by omega)⟩
      · rw [List.mem_singleton.mp hd]; exact ⟨2, _, rfl, good2 h1 h2⟩
    obtain ⟨door, x, rfl, c⟩ := c
    have b : bindTg (.tp [6, 10]) (.tuple [.int door, x]) (fr A I g (.int n) (.ow (.list xs)) s5 s6 s7 s8 s9 s10) = some (fr A I g (.int n) (.ow (.list xs)) s5 (.sh (.int door)) s7 s8 s9 (.sh x)) := by
      rcases free_cases k6 with rfl | ⟨y, rfl⟩ <;> rcases free_cases k10 with rfl | ⟨z, rfl⟩ <;> rfl
    exact ⟨_, _, b, .inl (b8_ok _ A I g _ _ s5 s7 s8 s9 door x c), s5, .sh (.int door), s7, s8, s9, .sh x, k5, rfl, k7, k8, k9, rfl, rfl⟩) hf
  refine ⟨f', ?_, i⟩
  obtain ⟨s5, s6, s7, s8, s9, s10, k5, k6, k7, k8, k9, k10, rfl⟩ := hf
  rw [o8_eq, ex_for, it8, bind_okS, lockL_nil, e]
  rfl
theorem o9_ok (C : Calls) (A I : D) (g : Slot) (n : Int) (st s5 s6 s7 s8 s9 s10 : Slot) (c : C 20 [.sh (.int 3), .sh (pr n 1)] = .ok (.list [kd 25, .str "None"]) true none) : ex C (wrOf G) o9 (fr A I g (.int n) st s5 s6 s7 s8 s9 s10) = .ok .next (fr A I g (.int n) st s5 s6 s7 s8 s9 s10) := by
  have q := ne_kd 25 (z := "None") (strOk_ofS _)
  have e : kd 25 = .list [.bool false, .bool false, .bool true] := rfl
  rw [e] at q c
  have hr : biD .repr [.none] = some (.str "None", false) := by rw [bi_reprD, if_pos (by decide +kernel)]; rfl
  unfold pr at c
  unfold fr o9
  simp -implicitDefEqProofs [-bi_reprD, w20, c, hr, z2, z3, q]
end K04
namespace K04
open PySem TL
def asg (s : Slot) : Prop := s = .un ∨ ∃ d, s = .ow d
/-- the frame at a turn's start -/
def f0r (A I : D) (g n st s5 s6 s7 s8 s9 s10 : Slot) : Gv := [.sh A, .sh I, g, n, st, s5, s6, s7, s8, s9, s10]
theorem o0_ok (C : Calls) (A I d : D) (s2 s3 s4 s5 s6 s7 s8 s9 s10 : Slot) (h : asg s2) (c : C 16 [.sh A, .sh I] = .ok d true none) : ex C (wrOf G) o0 (f0r A I s2 s3 s4 s5 s6 s7 s8 s9 s10) = .ok .next (f0r A I (.ow d) s3 s4 s5 s6 s7 s8 s9 s10) := by
  unfold f0r o0
  rcases h with rfl | ⟨x, rfl⟩ <;> simp -implicitDefEqProofs [w16, c]
theorem o1_ok (C : Calls) (A I d d1 : D) (z m : Int) (hm : 1 + z = m) (s3 s4 s5 s6 s7 s8 s9 s10 : Slot) (h : s3.free = true) (p : powOk 10 9 = true) (c : C 17 [.io d, .sh (.int (10 ^ 9))] = .ok (.int z) false (some d1)) : ex C (wrOf G) o1 (f0r A I (.ow d) s3 s4 s5 s6 s7 s8 s9 s10) = .ok .next (f0r A I (.ow d1) (.sh (.int m)) s4 s5 s6 s7 s8 s9 s10) := by
  have c' : C 17 [.io d, .sh (.int 1000000000)] = .ok (.int z) false (some d1) := c
  unfold f0r o1
  rcases free_cases h with rfl | ⟨x, rfl⟩ <;> simp -implicitDefEqProofs [w17, c', p, hm]
theorem o2_ok (C : Calls) (A I : D) (g : Slot) (n : Int) (m : mulOk n 2 = true) (s4 s5 s6 s7 s8 s9 s10 : Slot) (h : asg s4) : ex C (wrOf G) o2 (f0r A I g (.sh (.int n)) s4 s5 s6 s7 s8 s9 s10) = .ok .next (f0r A I g (.sh (.int n)) (.ow (.list (strg n))) s5 s6 s7 s8 s9 s10) := by
  have z18 : 18 ≤ sizeLine := by decide
  have z0 : 0 ≤ sizeLine := by decide
  unfold f0r o2 strg S16 pr
  rcases h with rfl | ⟨x, rfl⟩ <;> simp -implicitDefEqProofs [m, z18, z0, z1, z2, z3]
theorem o3_ok (C : Calls) (A I : D) (g N : Slot) (xs : List D) (hx : ∀ d ∈ xs, reprOk d = true) (s5 s6 s7 s8 s9 s10 : Slot) : ex C (wrOf G) o3 (f0r A I g N (.ow (.list xs)) s5 s6 s7 s8 s9 s10) = .ok .next (f0r A I g N (.ow (.list (xs.filter keep))) s5 s6 s7 s8 s9 s10) := by
  have F := lc_fin (vs := [5]) (tg := .nm 5) (rng := false) (ft := evTs C (wrOf G) (.cons (.cmp .NotEq (.bi .repr (.cons (.b 5) .nil)) (.k (.str "(1, 1)"))) .nil)) (fx := ev C (wrOf G) (.v 5)) (p := keep) (h := id) (g := f0r A I g N (.ow (.list xs)) s5 s6 s7 s8 s9 s10) (ds := xs) (ls := [4]) (fun d hd => by
    refine ⟨[.sh A, .sh I, g, N, .lk (.list xs), .sh d, s6, s7, s8, s9, s10], rfl, ?_, fun _ => ⟨false, rfl⟩, rfl⟩
    have r := rep_of (hx d hd)
    unfold keep
    simp -implicitDefEqProofs [-bi_reprD, r]
    cases decide (PyData.shown d = Str.ofString "(1, 1)") <;> rfl) (fun z => by cases z)
  rw [List.map_id] at F
  unfold o3
  rw [ex_set, ev_lc]
  show (((ev C (wrOf G) (.b 4) (f0r A I g N (.ow (.list xs)) s5 s6 s7 s8 s9 s10)).bind fun a g => finSeq a g).bind _).bind _ = _
  rw [show (ev C (wrOf G) (.b 4) (f0r A I g N (.ow (.list xs)) s5 s6 s7 s8 s9 s10)).bind (fun a g => finSeq a g) = .ok (xs, [4]) (f0r A I g N (.ow (.list xs)) s5 s6 s7 s8 s9 s10) from rfl, bind_okS]
  show (finLc [5] (.nm 5) false _ _ (xs, [4]) _).bind _ = _
  rw [F]
  rfl
/-- the frame between two turns -/
def Ft (A : D) (f : Gv) : Prop := ∃ (I : D) (g n st s5 s6 s7 s8 s9 s10 : Slot), asg g ∧ n.free = true ∧ asg st ∧ s5.free = true ∧ s6.free = true ∧ s7.free = true ∧ s8.free = true ∧ s9.free = true ∧ s10.free = true ∧ f = f0r A I g n st s5 s6 s7 s8 s9 s10
theorem turn (ns : List Int) (k : Nat) (hk : k ≤ 10) (g n st s5 s6 s7 s8 s9 s10 : Slot) (hg : asg g) (hn : n.free = true) (hs : asg st) (k5 : s5.free = true) (k6 : s6.free = true) (k7 : s7.free = true) (k8 : s8.free = true) (k9 : s9.free = true) (k10 : s10.free = true) :
    ∃ f', exs (TL.run G 39) (wrOf G) oB (f0r (scriptD ns) (.int (k : Nat)) g n st s5 s6 s7 s8 s9 s10) = .ok .next f' ∧ Ft (scriptD ns) f' := by
  obtain ⟨d, e0, gd⟩ := gen_ok (G := G) (n := 37) (i := 16) (c := 15) rfl rfl (ns := ns) (k := k) (by omega)
  obtain ⟨z, d1, e1, z0, z1, gd1⟩ := rand_ok (G := G) (n := 37) (i := 17) (h := 14) rfl rfl gd (by omega) (m := 10 ^ 9) (by decide) (by decide)
  have h1 : (1 : Int) ≤ 1 + z := by omega
  have h2 : 1 + z ≤ 10 ^ 9 := by omega
  have mo : mulOk (1 + z) 2 = true := mul30 (by omega) (by omega) (by omega) (by omega)
  have E0 := o0_ok (TL.run G 39) (scriptD ns) (.int (k : Nat)) d g n st s5 s6 s7 s8 s9 s10 hg e0
  have E1 := o1_ok (TL.run G 39) (scriptD ns) (.int (k : Nat)) d d1 z _ rfl n st s5 s6 s7 s8 s9 s10 hn (by decide +kernel) e1
  have E2 := o2_ok (TL.run G 39) (scriptD ns) (.int (k : Nat)) (.ow d1) (1 + z) mo st s5 s6 s7 s8 s9 s10 hs
  have E3 := o3_ok (TL.run G 39) (scriptD ns) (.int (k : Nat)) (.ow d1) (.sh (.int (1 + z))) (strg (1 + z)) (strg_rep h1 h2) s5 s6 s7 s8 s9 s10
  generalize hm : (1 + z : Int) = m at h1 h2 E1 E2 E3
  obtain ⟨f4, E4, i4⟩ := st4 32 (scriptD ns) (.int (k : Nat)) (.ow d1) h1 h2 _ ⟨s5, s6, s7, s8, s9, s10, k5, k6, k7, k8, k9, k10, rfl⟩
  obtain ⟨f5, E5, i5⟩ := st5 32 (scriptD ns) (.int (k : Nat)) (.ow d1) f4 i4
  obtain ⟨f6, E6, g6, gg6, i6⟩ := st6 32 (scriptD ns) (.int (k : Nat)) h1 h2 2000000 (by decide) f5 ⟨d1, gd1.mono (by omega), i5⟩
  obtain ⟨f7, E7, i7⟩ := st7 32 (scriptD ns) (.int (k : Nat)) (.ow g6) f6 i6
  obtain ⟨f8, E8, i8⟩ := st8 32 (scriptD ns) (.int (k : Nat)) (.ow g6) h1 h2 f7 i7
  obtain ⟨t5, t6, t7, t8, t9, t10, l5, l6, l7, l8, l9, l10, rfl⟩ := i8
  have c9 := no3 (n := 32) (d := pr m 1) (sm_pr (Nat.lt_of_le_of_lt (show m.natAbs ≤ 10 ^ 9 by omega) (by decide)) (by decide)) (by
    have g : gg m 1 = 1 := Nat.gcd_one_right _
    show (decide ((1 : Int) ≤ 1) && decide (gg m 1 = 1)) = true
    rw [g]
    rfl)
  have E9 := o9_ok (TL.run G 39) (scriptD ns) (.int (k : Nat)) (.ow g6) m (.ow (.list ((strg m).filter keep))) t5 t6 t7 t8 t9 t10 c9
  refine ⟨_, ?_, .int (k : Nat), .ow g6, .sh (.int m), .ow (.list ((strg m).filter keep)), t5, t6, t7, t8, t9, t10, .inr ⟨_, rfl⟩, rfl, .inr ⟨_, rfl⟩, l5, l6, l7, l8, l9, l10, rfl⟩
  unfold oB
  exact (exs_step E0).trans ((exs_step E1).trans ((exs_step E2).trans ((exs_step E3).trans ((exs_step E4).trans ((exs_step E5).trans ((exs_step E6).trans ((exs_step E7).trans ((exs_step E8).trans (exs_step E9)))))))))
theorem plain (ns : List Int) (hl : ns.length ≤ 63) (hb : ∀ z ∈ ns, Builtin.Int.intBits z ≤ 1048576) : TL.run G 40 22 [.sh (scriptD ns)] = .ok (.bool true) false none := by
  obtain ⟨f', e, I, g, n, st, s5, s6, s7, s8, s9, s10, _, _, _, _, _, _, _, _, _, _, rfl⟩ := for_inv (tg := .nm 1) (body := exs (TL.run G 39) (wrOf G) oB) (fun f => ∃ (I g n st s5 s6 s7 s8 s9 s10 : Slot), I.free = true ∧ asg g ∧ n.free = true ∧ asg st ∧ s5.free = true ∧ s6.free = true ∧ s7.free = true ∧ s8.free = true ∧ s9.free = true ∧ s10.free = true ∧ f = [.sh (scriptD ns), I, g, n, st, s5, s6, s7, s8, s9, s10])
    (rngL 0 3) [.sh (scriptD ns), .un, .un, .un, .un, .un, .un, .un, .un, .un, .un] (fun d hd f ⟨I, g, n, st, s5, s6, s7, s8, s9, s10, kI, kg, kn, ks, k5, k6, k7, k8, k9, k10, hf⟩ => by
      subst hf
      have hd3 : ∃ k : Nat, k ≤ 10 ∧ d = .int (k : Nat) := by
        rcases List.mem_cons.mp (show d ∈ [PyData.int 0, .int 1, .int 2] from hd) with rfl | hd
        · exact ⟨0, by omega, rfl⟩
        · rcases List.mem_cons.mp hd with rfl | hd
          · exact ⟨1, by omega, rfl⟩
          · rw [List.mem_singleton.mp hd]; exact ⟨2, by omega, rfl⟩
      obtain ⟨k, hk, rfl⟩ := hd3
      obtain ⟨f', e, I', g', n', st', t5, t6, t7, t8, t9, t10, q1, q2, q3, q4, q5, q6, q7, q8, q9, rfl⟩ := turn ns k hk g n st s5 s6 s7 s8 s9 s10 kg kn ks k5 k6 k7 k8 k9 k10
      refine ⟨_, _, ?_, .inl e, .sh I', g', n', st', t5, t6, t7, t8, t9, t10, rfl, q1, q2, q3, q4, q5, q6, q7, q8, q9, rfl⟩
      rcases free_cases kI with rfl | ⟨x, rfl⟩ <;> rfl) ⟨.un, .un, .un, .un, .un, .un, .un, .un, .un, .un, rfl, .inl rfl, rfl, .inl rfl, rfl, rfl, rfl, rfl, rfl, rfl, rfl⟩
  refine run_of rfl rfl (run_fin (g' := [.sh (scriptD ns), I, g, n, st, s5, s6, s7, s8, s9, s10]) ?_ rfl)
  rw [body22]
  refine (exs_step (g' := [.sh (scriptD ns), I, g, n, st, s5, s6, s7, s8, s9, s10]) ?_).trans rfl
  show ex (TL.run G 39) (wrOf G) _ [.sh (scriptD ns), .un, .un, .un, .un, .un, .un, .un, .un, .un, .un] = _
  rw [ex_for, show evIt (TL.run G 39) (wrOf G) (.rng1 (.k (.int 3))) [.sh (scriptD ns), .un, .un, .un, .un, .un, .un, .un, .un, .un, .un] = .ok (rngL 0 3, []) [.sh (scriptD ns), .un, .un, .un, .un, .un, .un, .un, .un, .un, .un] from rfl, bind_okS, lockL_nil, e]
  rfl
end K04
namespace K04
open PySem PySem.Spec PyProof.Rows L2 TL
def topS (i : Nat) : Stmt := PySem.Challenge.pw_lonehall_k04_fractions_refused.main.body.getD i (.Pass ⟨0, 0, 0, 0⟩)
theorem c0 : fnC G f0 (topS 6) = true := by decide +kernel
theorem s0 : FnScope f0.N (f0.N.take f0.np) (defScope (topS 6)) := ⟨rfl, rfl, rfl, by decide +kernel, rfl, by decide +kernel, by decide +kernel⟩
theorem c1 : fnC G f1 (topS 7) = true := by decide +kernel
theorem s1 : FnScope f1.N (f1.N.take f1.np) (defScope (topS 7)) := ⟨rfl, rfl, rfl, by decide +kernel, rfl, by decide +kernel, by decide +kernel⟩
theorem c2 : fnC G f2 (topS 9) = true := by decide +kernel
theorem s2 : FnScope f2.N (f2.N.take f2.np) (defScope (topS 9)) := ⟨rfl, rfl, rfl, by decide +kernel, rfl, by decide +kernel, by decide +kernel⟩
theorem c3 : fnC G f3 (topS 10) = true := by decide +kernel
theorem s3 : FnScope f3.N (f3.N.take f3.np) (defScope (topS 10)) := ⟨rfl, rfl, rfl, by decide +kernel, rfl, by decide +kernel, by decide +kernel⟩
theorem c4 : fnC G f4 (topS 11) = true := by decide +kernel
theorem s4 : FnScope f4.N (f4.N.take f4.np) (defScope (topS 11)) := ⟨rfl, rfl, rfl, by decide +kernel, rfl, by decide +kernel, by decide +kernel⟩
theorem c5 : fnC G f5 (topS 12) = true := by decide +kernel
theorem s5 : FnScope f5.N (f5.N.take f5.np) (defScope (topS 12)) := ⟨rfl, rfl, rfl, by decide +kernel, rfl, by decide +kernel, by decide +kernel⟩
theorem c6 : fnC G f6 (topS 13) = true := by decide +kernel
theorem s6 : FnScope f6.N (f6.N.take f6.np) (defScope (topS 13)) := ⟨rfl, rfl, rfl, by decide +kernel, rfl, by decide +kernel, by decide +kernel⟩
theorem c7 : fnC G f7 (topS 14) = true := by decide +kernel
theorem s7 : FnScope f7.N (f7.N.take f7.np) (defScope (topS 14)) := ⟨rfl, rfl, rfl, by decide +kernel, rfl, by decide +kernel, by decide +kernel⟩
theorem c8 : fnC G f8 (topS 15) = true := by decide +kernel
theorem s8 : FnScope f8.N (f8.N.take f8.np) (defScope (topS 15)) := ⟨rfl, rfl, rfl, by decide +kernel, rfl, by decide +kernel, by decide +kernel⟩
theorem c9 : fnC G f9 (topS 16) = true := by decide +kernel
theorem s9 : FnScope f9.N (f9.N.take f9.np) (defScope (topS 16)) := ⟨rfl, rfl, rfl, by decide +kernel, rfl, by decide +kernel, by decide +kernel⟩
theorem c10 : fnC G f10 (topS 17) = true := by decide +kernel
theorem s10 : FnScope f10.N (f10.N.take f10.np) (defScope (topS 17)) := ⟨rfl, rfl, rfl, by decide +kernel, rfl, by decide +kernel, by decide +kernel⟩
theorem c11 : fnC G f11 (topS 18) = true := by decide +kernel
theorem s11 : FnScope f11.N (f11.N.take f11.np) (defScope (topS 18)) := ⟨rfl, rfl, rfl, by decide +kernel, rfl, by decide +kernel, by decide +kernel⟩
theorem c12 : fnC G f12 (topS 19) = true := by decide +kernel
theorem s12 : FnScope f12.N (f12.N.take f12.np) (defScope (topS 19)) := ⟨rfl, rfl, rfl, by decide +kernel, rfl, by decide +kernel, by decide +kernel⟩
theorem c13 : fnC G f13 (topS 20) = true := by decide +kernel
theorem s13 : FnScope f13.N (f13.N.take f13.np) (defScope (topS 20)) := ⟨rfl, rfl, rfl, by decide +kernel, rfl, by decide +kernel, by decide +kernel⟩
theorem c14 : fnC G f14 (topS 22) = true := by decide +kernel
theorem s14 : FnScope f14.N (f14.N.take f14.np) (defScope (topS 22)) := ⟨rfl, rfl, rfl, by decide +kernel, rfl, by decide +kernel, by decide +kernel⟩
theorem c15 : fnC G f15 (topS 23) = true := by decide +kernel
theorem s15 : FnScope f15.N (f15.N.take f15.np) (defScope (topS 23)) := ⟨rfl, rfl, rfl, by decide +kernel, rfl, by decide +kernel, by decide +kernel⟩
theorem c16 : fnC G f16 (topS 24) = true := by decide +kernel
theorem s16 : FnScope f16.N (f16.N.take f16.np) (defScope (topS 24)) := ⟨rfl, rfl, rfl, by decide +kernel, rfl, by decide +kernel, by decide +kernel⟩
theorem c17 : fnC G f17 (topS 25) = true := by decide +kernel
theorem s17 : FnScope f17.N (f17.N.take f17.np) (defScope (topS 25)) := ⟨rfl, rfl, rfl, by decide +kernel, rfl, by decide +kernel, by decide +kernel⟩
theorem c18 : fnC G f18 (topS 26) = true := by decide +kernel
theorem s18 : FnScope f18.N (f18.N.take f18.np) (defScope (topS 26)) := ⟨rfl, rfl, rfl, by decide +kernel, rfl, by decide +kernel, by decide +kernel⟩
theorem c19 : fnC G f19 (topS 27) = true := by decide +kernel
theorem s19 : FnScope f19.N (f19.N.take f19.np) (defScope (topS 27)) := ⟨rfl, rfl, rfl, by decide +kernel, rfl, by decide +kernel, by decide +kernel⟩
theorem c20 : fnC G f20 (topS 28) = true := by decide +kernel
theorem s20 : FnScope f20.N (f20.N.take f20.np) (defScope (topS 28)) := ⟨rfl, rfl, rfl, by decide +kernel, rfl, by decide +kernel, by decide +kernel⟩
theorem c21 : fnC G f21 (topS 29) = true := by decide +kernel
theorem s21 : FnScope f21.N (f21.N.take f21.np) (defScope (topS 29)) := ⟨rfl, rfl, rfl, by decide +kernel, rfl, by decide +kernel, by decide +kernel⟩
theorem c22 : fnC G f22 (topS 30) = true := by decide +kernel
theorem s22 : FnScope f22.N (f22.N.take f22.np) (defScope (topS 30)) := ⟨rfl, rfl, rfl, by decide +kernel, rfl, by decide +kernel, by decide +kernel⟩
section
variable {w : World} {K : PySem.W.Frag} {h : Heap} {mg : Str → Option Value}
theorem d0 {f : Addr} {od an : Option Addr} {sl : Array (Option Value)} {oc kV dc pm cd ct : Value} (X : K.In h) (Z : h.Ns mainGlobals mg) (a : PySem.W.nsIn K mainGlobals "is_whole" = some (some (.ref f)))
    (l : K.lookup f = some ⟨oc, od, .func (PySem.W.fnOf "is_whole" "is_whole" (defArgs (topS 6)) (defBody (topS 6)) (defScope (topS 6)) .none kV dc pm an cd ct), sl⟩) (c : PySem.W.codeIn K cd "is_whole" = true) (k : PySem.W.keepIn K (.ref f) = true) :
    DefOk K mg G f0 f (PySem.W.fnOf "is_whole" "is_whole" (defArgs (topS 6)) (defBody (topS 6)) (defScope (topS 6)) .none kV dc pm an cd ct) where
  mg := PySem.W.mg_of X Z a
  keep := k
  binds := (fun_mk (st := topS 6) l c k).binds fun _ _ _ _ _ _ us hl => match us, hl with | [_], _ => rfl
  np := by decide
  kw := fun m hm => nomatch hm
  kp := fun q hq => nomatch hq
  body := ⟨_, topS 6, fun_mk l c k, s0, c0⟩
theorem d1 {f : Addr} {od an : Option Addr} {sl : Array (Option Value)} {oc kV dc pm cd ct : Value} (X : K.In h) (Z : h.Ns mainGlobals mg) (a : PySem.W.nsIn K mainGlobals "check_list" = some (some (.ref f)))
    (l : K.lookup f = some ⟨oc, od, .func (PySem.W.fnOf "check_list" "check_list" (defArgs (topS 7)) (defBody (topS 7)) (defScope (topS 7)) .none kV dc pm an cd ct), sl⟩) (c : PySem.W.codeIn K cd "check_list" = true) (k : PySem.W.keepIn K (.ref f) = true) :
    DefOk K mg G f1 f (PySem.W.fnOf "check_list" "check_list" (defArgs (topS 7)) (defBody (topS 7)) (defScope (topS 7)) .none kV dc pm an cd ct) where
  mg := PySem.W.mg_of X Z a
  keep := k
  binds := (fun_mk (st := topS 7) l c k).binds fun _ _ _ _ _ _ us hl => match us, hl with | [_], _ => rfl
  np := by decide
  kw := fun m hm => nomatch hm
  kp := fun q hq => nomatch hq
  body := ⟨_, topS 7, fun_mk l c k, s1, c1⟩
theorem d2 {f : Addr} {od an : Option Addr} {sl : Array (Option Value)} {oc kV dc pm cd ct : Value} (X : K.In h) (Z : h.Ns mainGlobals mg) (a : PySem.W.nsIn K mainGlobals "common_of" = some (some (.ref f)))
    (l : K.lookup f = some ⟨oc, od, .func (PySem.W.fnOf "common_of" "common_of" (defArgs (topS 9)) (defBody (topS 9)) (defScope (topS 9)) .none kV dc pm an cd ct), sl⟩) (c : PySem.W.codeIn K cd "common_of" = true) (k : PySem.W.keepIn K (.ref f) = true) :
    DefOk K mg G f2 f (PySem.W.fnOf "common_of" "common_of" (defArgs (topS 9)) (defBody (topS 9)) (defScope (topS 9)) .none kV dc pm an cd ct) where
  mg := PySem.W.mg_of X Z a
  keep := k
  binds := (fun_mk (st := topS 9) l c k).binds fun _ _ _ _ _ _ us hl => match us, hl with | [_, _], _ => rfl
  np := by decide
  kw := fun m hm => nomatch hm
  kp := fun q hq => nomatch hq
  body := ⟨_, topS 9, fun_mk l c k, s2, c2⟩
theorem d3 {f : Addr} {od an : Option Addr} {sl : Array (Option Value)} {oc kV dc pm cd ct : Value} (X : K.In h) (Z : h.Ns mainGlobals mg) (a : PySem.W.nsIn K mainGlobals "is_fraction" = some (some (.ref f)))
    (l : K.lookup f = some ⟨oc, od, .func (PySem.W.fnOf "is_fraction" "is_fraction" (defArgs (topS 10)) (defBody (topS 10)) (defScope (topS 10)) .none kV dc pm an cd ct), sl⟩) (c : PySem.W.codeIn K cd "is_fraction" = true) (k : PySem.W.keepIn K (.ref f) = true) :
    DefOk K mg G f3 f (PySem.W.fnOf "is_fraction" "is_fraction" (defArgs (topS 10)) (defBody (topS 10)) (defScope (topS 10)) .none kV dc pm an cd ct) where
  mg := PySem.W.mg_of X Z a
  keep := k
  binds := (fun_mk (st := topS 10) l c k).binds fun _ _ _ _ _ _ us hl => match us, hl with | [_], _ => rfl
  np := by decide
  kw := fun m hm => nomatch hm
  kp := fun q hq => nomatch hq
  body := ⟨_, topS 10, fun_mk l c k, s3, c3⟩
theorem d4 {f : Addr} {od an : Option Addr} {sl : Array (Option Value)} {oc kV dc pm cd ct : Value} (X : K.In h) (Z : h.Ns mainGlobals mg) (a : PySem.W.nsIn K mainGlobals "check_fraction" = some (some (.ref f)))
    (l : K.lookup f = some ⟨oc, od, .func (PySem.W.fnOf "check_fraction" "check_fraction" (defArgs (topS 11)) (defBody (topS 11)) (defScope (topS 11)) .none kV dc pm an cd ct), sl⟩) (c : PySem.W.codeIn K cd "check_fraction" = true) (k : PySem.W.keepIn K (.ref f) = true) :
    DefOk K mg G f4 f (PySem.W.fnOf "check_fraction" "check_fraction" (defArgs (topS 11)) (defBody (topS 11)) (defScope (topS 11)) .none kV dc pm an cd ct) where
  mg := PySem.W.mg_of X Z a
  keep := k
  binds := (fun_mk (st := topS 11) l c k).binds fun _ _ _ _ _ _ us hl => match us, hl with | [_], _ => rfl
  np := by decide
  kw := fun m hm => nomatch hm
  kp := fun q hq => nomatch hq
  body := ⟨_, topS 11, fun_mk l c k, s4, c4⟩
theorem d5 {f : Addr} {od an : Option Addr} {sl : Array (Option Value)} {oc kV dc pm cd ct : Value} (X : K.In h) (Z : h.Ns mainGlobals mg) (a : PySem.W.nsIn K mainGlobals "lowest_of" = some (some (.ref f)))
    (l : K.lookup f = some ⟨oc, od, .func (PySem.W.fnOf "lowest_of" "lowest_of" (defArgs (topS 12)) (defBody (topS 12)) (defScope (topS 12)) .none kV dc pm an cd ct), sl⟩) (c : PySem.W.codeIn K cd "lowest_of" = true) (k : PySem.W.keepIn K (.ref f) = true) :
    DefOk K mg G f5 f (PySem.W.fnOf "lowest_of" "lowest_of" (defArgs (topS 12)) (defBody (topS 12)) (defScope (topS 12)) .none kV dc pm an cd ct) where
  mg := PySem.W.mg_of X Z a
  keep := k
  binds := (fun_mk (st := topS 12) l c k).binds fun _ _ _ _ _ _ us hl => match us, hl with | [_, _], _ => rfl
  np := by decide
  kw := fun m hm => nomatch hm
  kp := fun q hq => nomatch hq
  body := ⟨_, topS 12, fun_mk l c k, s5, c5⟩
theorem d6 {f : Addr} {od an : Option Addr} {sl : Array (Option Value)} {oc kV dc pm cd ct : Value} (X : K.In h) (Z : h.Ns mainGlobals mg) (a : PySem.W.nsIn K mainGlobals "fraction_of" = some (some (.ref f)))
    (l : K.lookup f = some ⟨oc, od, .func (PySem.W.fnOf "fraction_of" "fraction_of" (defArgs (topS 13)) (defBody (topS 13)) (defScope (topS 13)) .none kV dc pm an cd ct), sl⟩) (c : PySem.W.codeIn K cd "fraction_of" = true) (k : PySem.W.keepIn K (.ref f) = true) :
    DefOk K mg G f6 f (PySem.W.fnOf "fraction_of" "fraction_of" (defArgs (topS 13)) (defBody (topS 13)) (defScope (topS 13)) .none kV dc pm an cd ct) where
  mg := PySem.W.mg_of X Z a
  keep := k
  binds := (fun_mk (st := topS 13) l c k).binds fun _ _ _ _ _ _ us hl => match us, hl with | [_, _], _ => rfl
  np := by decide
  kw := fun m hm => nomatch hm
  kp := fun q hq => nomatch hq
  body := ⟨_, topS 13, fun_mk l c k, s6, c6⟩
theorem d7 {f : Addr} {od an : Option Addr} {sl : Array (Option Value)} {oc kV dc pm cd ct : Value} (X : K.In h) (Z : h.Ns mainGlobals mg) (a : PySem.W.nsIn K mainGlobals "plus_of" = some (some (.ref f)))
    (l : K.lookup f = some ⟨oc, od, .func (PySem.W.fnOf "plus_of" "plus_of" (defArgs (topS 14)) (defBody (topS 14)) (defScope (topS 14)) .none kV dc pm an cd ct), sl⟩) (c : PySem.W.codeIn K cd "plus_of" = true) (k : PySem.W.keepIn K (.ref f) = true) :
    DefOk K mg G f7 f (PySem.W.fnOf "plus_of" "plus_of" (defArgs (topS 14)) (defBody (topS 14)) (defScope (topS 14)) .none kV dc pm an cd ct) where
  mg := PySem.W.mg_of X Z a
  keep := k
  binds := (fun_mk (st := topS 14) l c k).binds fun _ _ _ _ _ _ us hl => match us, hl with | [_, _], _ => rfl
  np := by decide
  kw := fun m hm => nomatch hm
  kp := fun q hq => nomatch hq
  body := ⟨_, topS 14, fun_mk l c k, s7, c7⟩
theorem d8 {f : Addr} {od an : Option Addr} {sl : Array (Option Value)} {oc kV dc pm cd ct : Value} (X : K.In h) (Z : h.Ns mainGlobals mg) (a : PySem.W.nsIn K mainGlobals "times_of" = some (some (.ref f)))
    (l : K.lookup f = some ⟨oc, od, .func (PySem.W.fnOf "times_of" "times_of" (defArgs (topS 15)) (defBody (topS 15)) (defScope (topS 15)) .none kV dc pm an cd ct), sl⟩) (c : PySem.W.codeIn K cd "times_of" = true) (k : PySem.W.keepIn K (.ref f) = true) :
    DefOk K mg G f8 f (PySem.W.fnOf "times_of" "times_of" (defArgs (topS 15)) (defBody (topS 15)) (defScope (topS 15)) .none kV dc pm an cd ct) where
  mg := PySem.W.mg_of X Z a
  keep := k
  binds := (fun_mk (st := topS 15) l c k).binds fun _ _ _ _ _ _ us hl => match us, hl with | [_, _], _ => rfl
  np := by decide
  kw := fun m hm => nomatch hm
  kp := fun q hq => nomatch hq
  body := ⟨_, topS 15, fun_mk l c k, s8, c8⟩
theorem d9 {f : Addr} {od an : Option Addr} {sl : Array (Option Value)} {oc kV dc pm cd ct : Value} (X : K.In h) (Z : h.Ns mainGlobals mg) (a : PySem.W.nsIn K mainGlobals "less_than" = some (some (.ref f)))
    (l : K.lookup f = some ⟨oc, od, .func (PySem.W.fnOf "less_than" "less_than" (defArgs (topS 16)) (defBody (topS 16)) (defScope (topS 16)) .none kV dc pm an cd ct), sl⟩) (c : PySem.W.codeIn K cd "less_than" = true) (k : PySem.W.keepIn K (.ref f) = true) :
    DefOk K mg G f9 f (PySem.W.fnOf "less_than" "less_than" (defArgs (topS 16)) (defBody (topS 16)) (defScope (topS 16)) .none kV dc pm an cd ct) where
  mg := PySem.W.mg_of X Z a
  keep := k
  binds := (fun_mk (st := topS 16) l c k).binds fun _ _ _ _ _ _ us hl => match us, hl with | [_, _], _ => rfl
  np := by decide
  kw := fun m hm => nomatch hm
  kp := fun q hq => nomatch hq
  body := ⟨_, topS 16, fun_mk l c k, s9, c9⟩
theorem d10 {f : Addr} {od an : Option Addr} {sl : Array (Option Value)} {oc kV dc pm cd ct : Value} (X : K.In h) (Z : h.Ns mainGlobals mg) (a : PySem.W.nsIn K mainGlobals "check_fractions" = some (some (.ref f)))
    (l : K.lookup f = some ⟨oc, od, .func (PySem.W.fnOf "check_fractions" "check_fractions" (defArgs (topS 17)) (defBody (topS 17)) (defScope (topS 17)) .none kV dc pm an cd ct), sl⟩) (c : PySem.W.codeIn K cd "check_fractions" = true) (k : PySem.W.keepIn K (.ref f) = true) :
    DefOk K mg G f10 f (PySem.W.fnOf "check_fractions" "check_fractions" (defArgs (topS 17)) (defBody (topS 17)) (defScope (topS 17)) .none kV dc pm an cd ct) where
  mg := PySem.W.mg_of X Z a
  keep := k
  binds := (fun_mk (st := topS 17) l c k).binds fun _ _ _ _ _ _ us hl => match us, hl with | [_], _ => rfl
  np := by decide
  kw := fun m hm => nomatch hm
  kp := fun q hq => nomatch hq
  body := ⟨_, topS 17, fun_mk l c k, s10, c10⟩
theorem d11 {f : Addr} {od an : Option Addr} {sl : Array (Option Value)} {oc kV dc pm cd ct : Value} (X : K.In h) (Z : h.Ns mainGlobals mg) (a : PySem.W.nsIn K mainGlobals "sum_of" = some (some (.ref f)))
    (l : K.lookup f = some ⟨oc, od, .func (PySem.W.fnOf "sum_of" "sum_of" (defArgs (topS 18)) (defBody (topS 18)) (defScope (topS 18)) .none kV dc pm an cd ct), sl⟩) (c : PySem.W.codeIn K cd "sum_of" = true) (k : PySem.W.keepIn K (.ref f) = true) :
    DefOk K mg G f11 f (PySem.W.fnOf "sum_of" "sum_of" (defArgs (topS 18)) (defBody (topS 18)) (defScope (topS 18)) .none kV dc pm an cd ct) where
  mg := PySem.W.mg_of X Z a
  keep := k
  binds := (fun_mk (st := topS 18) l c k).binds fun _ _ _ _ _ _ us hl => match us, hl with | [_], _ => rfl
  np := by decide
  kw := fun m hm => nomatch hm
  kp := fun q hq => nomatch hq
  body := ⟨_, topS 18, fun_mk l c k, s11, c11⟩
theorem d12 {f : Addr} {od an : Option Addr} {sl : Array (Option Value)} {oc kV dc pm cd ct : Value} (X : K.In h) (Z : h.Ns mainGlobals mg) (a : PySem.W.nsIn K mainGlobals "product_of" = some (some (.ref f)))
    (l : K.lookup f = some ⟨oc, od, .func (PySem.W.fnOf "product_of" "product_of" (defArgs (topS 19)) (defBody (topS 19)) (defScope (topS 19)) .none kV dc pm an cd ct), sl⟩) (c : PySem.W.codeIn K cd "product_of" = true) (k : PySem.W.keepIn K (.ref f) = true) :
    DefOk K mg G f12 f (PySem.W.fnOf "product_of" "product_of" (defArgs (topS 19)) (defBody (topS 19)) (defScope (topS 19)) .none kV dc pm an cd ct) where
  mg := PySem.W.mg_of X Z a
  keep := k
  binds := (fun_mk (st := topS 19) l c k).binds fun _ _ _ _ _ _ us hl => match us, hl with | [_], _ => rfl
  np := by decide
  kw := fun m hm => nomatch hm
  kp := fun q hq => nomatch hq
  body := ⟨_, topS 19, fun_mk l c k, s12, c12⟩
theorem d13 {f : Addr} {od an : Option Addr} {sl : Array (Option Value)} {oc kV dc pm cd ct : Value} (X : K.In h) (Z : h.Ns mainGlobals mg) (a : PySem.W.nsIn K mainGlobals "is_less" = some (some (.ref f)))
    (l : K.lookup f = some ⟨oc, od, .func (PySem.W.fnOf "is_less" "is_less" (defArgs (topS 20)) (defBody (topS 20)) (defScope (topS 20)) .none kV dc pm an cd ct), sl⟩) (c : PySem.W.codeIn K cd "is_less" = true) (k : PySem.W.keepIn K (.ref f) = true) :
    DefOk K mg G f13 f (PySem.W.fnOf "is_less" "is_less" (defArgs (topS 20)) (defBody (topS 20)) (defScope (topS 20)) .none kV dc pm an cd ct) where
  mg := PySem.W.mg_of X Z a
  keep := k
  binds := (fun_mk (st := topS 20) l c k).binds fun _ _ _ _ _ _ us hl => match us, hl with | [_, _], _ => rfl
  np := by decide
  kw := fun m hm => nomatch hm
  kp := fun q hq => nomatch hq
  body := ⟨_, topS 20, fun_mk l c k, s13, c13⟩
theorem d14 {f : Addr} {od an : Option Addr} {sl : Array (Option Value)} {oc kV dc pm cd ct : Value} (X : K.In h) (Z : h.Ns mainGlobals mg) (a : PySem.W.nsIn K mainGlobals "_law_hash" = some (some (.ref f)))
    (l : K.lookup f = some ⟨oc, od, .func (PySem.W.fnOf "_law_hash" "_law_hash" (defArgs (topS 22)) (defBody (topS 22)) (defScope (topS 22)) .none kV dc pm an cd ct), sl⟩) (c : PySem.W.codeIn K cd "_law_hash" = true) (k : PySem.W.keepIn K (.ref f) = true) :
    DefOk K mg G f14 f (PySem.W.fnOf "_law_hash" "_law_hash" (defArgs (topS 22)) (defBody (topS 22)) (defScope (topS 22)) .none kV dc pm an cd ct) where
  mg := PySem.W.mg_of X Z a
  keep := k
  binds := (fun_mk (st := topS 22) l c k).binds fun _ _ _ _ _ _ us hl => match us, hl with | [_, _], _ => rfl
  np := by decide
  kw := fun m hm => nomatch hm
  kp := fun q hq => nomatch hq
  body := ⟨_, topS 22, fun_mk l c k, s14, c14⟩
theorem d15 {f : Addr} {od an : Option Addr} {sl : Array (Option Value)} {oc kV dc pm cd ct : Value} (X : K.In h) (Z : h.Ns mainGlobals mg) (a : PySem.W.nsIn K mainGlobals "_law_cell" = some (some (.ref f)))
    (l : K.lookup f = some ⟨oc, od, .func (PySem.W.fnOf "_law_cell" "_law_cell" (defArgs (topS 23)) (defBody (topS 23)) (defScope (topS 23)) .none kV dc pm an cd ct), sl⟩) (c : PySem.W.codeIn K cd "_law_cell" = true) (k : PySem.W.keepIn K (.ref f) = true) :
    DefOk K mg G f15 f (PySem.W.fnOf "_law_cell" "_law_cell" (defArgs (topS 23)) (defBody (topS 23)) (defScope (topS 23)) .none kV dc pm an cd ct) where
  mg := PySem.W.mg_of X Z a
  keep := k
  binds := (fun_mk (st := topS 23) l c k).binds fun _ _ _ _ _ _ us hl => match us, hl with | [_, _], _ => rfl
  np := by decide
  kw := fun m hm => nomatch hm
  kp := fun q hq => nomatch hq
  body := ⟨_, topS 23, fun_mk l c k, s15, c15⟩
theorem d16 {f : Addr} {od an : Option Addr} {sl : Array (Option Value)} {oc kV dc pm cd ct : Value} (X : K.In h) (Z : h.Ns mainGlobals mg) (a : PySem.W.nsIn K mainGlobals "_law_generator" = some (some (.ref f)))
    (l : K.lookup f = some ⟨oc, od, .func (PySem.W.fnOf "_law_generator" "_law_generator" (defArgs (topS 24)) (defBody (topS 24)) (defScope (topS 24)) .none kV dc pm an cd ct), sl⟩) (c : PySem.W.codeIn K cd "_law_generator" = true) (k : PySem.W.keepIn K (.ref f) = true) :
    DefOk K mg G f16 f (PySem.W.fnOf "_law_generator" "_law_generator" (defArgs (topS 24)) (defBody (topS 24)) (defScope (topS 24)) .none kV dc pm an cd ct) where
  mg := PySem.W.mg_of X Z a
  keep := k
  binds := (fun_mk (st := topS 24) l c k).binds fun _ _ _ _ _ _ us hl => match us, hl with | [_, _], _ => rfl
  np := by decide
  kw := fun m hm => nomatch hm
  kp := fun q hq => nomatch hq
  body := ⟨_, topS 24, fun_mk l c k, s16, c16⟩
theorem d17 {f : Addr} {od an : Option Addr} {sl : Array (Option Value)} {oc kV dc pm cd ct : Value} (X : K.In h) (Z : h.Ns mainGlobals mg) (a : PySem.W.nsIn K mainGlobals "_law_random" = some (some (.ref f)))
    (l : K.lookup f = some ⟨oc, od, .func (PySem.W.fnOf "_law_random" "_law_random" (defArgs (topS 25)) (defBody (topS 25)) (defScope (topS 25)) .none kV dc pm an cd ct), sl⟩) (c : PySem.W.codeIn K cd "_law_random" = true) (k : PySem.W.keepIn K (.ref f) = true) :
    DefOk K mg G f17 f (PySem.W.fnOf "_law_random" "_law_random" (defArgs (topS 25)) (defBody (topS 25)) (defScope (topS 25)) .none kV dc pm an cd ct) where
  mg := PySem.W.mg_of X Z a
  keep := k
  binds := (fun_mk (st := topS 25) l c k).binds fun _ _ _ _ _ _ us hl => match us, hl with | [_, _], _ => rfl
  np := by decide
  kw := fun m hm => nomatch hm
  kp := fun q hq => nomatch hq
  body := ⟨_, topS 25, fun_mk l c k, s17, c17⟩
theorem d18 {f : Addr} {od an : Option Addr} {sl : Array (Option Value)} {oc kV dc pm cd ct : Value} (X : K.In h) (Z : h.Ns mainGlobals mg) (a : PySem.W.nsIn K mainGlobals "_law_pick" = some (some (.ref f)))
    (l : K.lookup f = some ⟨oc, od, .func (PySem.W.fnOf "_law_pick" "_law_pick" (defArgs (topS 26)) (defBody (topS 26)) (defScope (topS 26)) .none kV dc pm an cd ct), sl⟩) (c : PySem.W.codeIn K cd "_law_pick" = true) (k : PySem.W.keepIn K (.ref f) = true) :
    DefOk K mg G f18 f (PySem.W.fnOf "_law_pick" "_law_pick" (defArgs (topS 26)) (defBody (topS 26)) (defScope (topS 26)) .none kV dc pm an cd ct) where
  mg := PySem.W.mg_of X Z a
  keep := k
  binds := (fun_mk (st := topS 26) l c k).binds fun _ _ _ _ _ _ us hl => match us, hl with | [_, _], _ => rfl
  np := by decide
  kw := fun m hm => nomatch hm
  kp := fun q hq => nomatch hq
  body := ⟨_, topS 26, fun_mk l c k, s18, c18⟩
theorem d19 {f : Addr} {od an : Option Addr} {sl : Array (Option Value)} {oc kV dc pm cd ct : Value} (X : K.In h) (Z : h.Ns mainGlobals mg) (a : PySem.W.nsIn K mainGlobals "_law_call" = some (some (.ref f)))
    (l : K.lookup f = some ⟨oc, od, .func (PySem.W.fnOf "_law_call" "_law_call" (defArgs (topS 27)) (defBody (topS 27)) (defScope (topS 27)) .none kV dc pm an cd ct), sl⟩) (c : PySem.W.codeIn K cd "_law_call" = true) (k : PySem.W.keepIn K (.ref f) = true) :
    DefOk K mg G f19 f (PySem.W.fnOf "_law_call" "_law_call" (defArgs (topS 27)) (defBody (topS 27)) (defScope (topS 27)) .none kV dc pm an cd ct) where
  mg := PySem.W.mg_of X Z a
  keep := k
  binds := (fun_mk (st := topS 27) l c k).binds fun _ _ _ _ _ _ us hl => match us, hl with | [_, _], _ => rfl
  np := by decide
  kw := fun m hm => nomatch hm
  kp := fun q hq => nomatch hq
  body := ⟨_, topS 27, fun_mk l c k, s19, c19⟩
theorem d20 {f : Addr} {od an : Option Addr} {sl : Array (Option Value)} {oc kV dc pm cd ct : Value} (X : K.In h) (Z : h.Ns mainGlobals mg) (a : PySem.W.nsIn K mainGlobals "_law_caught" = some (some (.ref f)))
    (l : K.lookup f = some ⟨oc, od, .func (PySem.W.fnOf "_law_caught" "_law_caught" (defArgs (topS 28)) (defBody (topS 28)) (defScope (topS 28)) .none kV dc pm an cd ct), sl⟩) (c : PySem.W.codeIn K cd "_law_caught" = true) (k : PySem.W.keepIn K (.ref f) = true) :
    DefOk K mg G f20 f (PySem.W.fnOf "_law_caught" "_law_caught" (defArgs (topS 28)) (defBody (topS 28)) (defScope (topS 28)) .none kV dc pm an cd ct) where
  mg := PySem.W.mg_of X Z a
  keep := k
  binds := (fun_mk (st := topS 28) l c k).binds fun _ _ _ _ _ _ us hl => match us, hl with | [_, _], _ => rfl
  np := by decide
  kw := fun m hm => nomatch hm
  kp := fun q hq => nomatch hq
  body := ⟨_, topS 28, fun_mk l c k, s20, c20⟩
theorem d21 {f : Addr} {od an : Option Addr} {sl : Array (Option Value)} {oc kV dc pm cd ct : Value} (X : K.In h) (Z : h.Ns mainGlobals mg) (a : PySem.W.nsIn K mainGlobals "_law_alone" = some (some (.ref f)))
    (l : K.lookup f = some ⟨oc, od, .func (PySem.W.fnOf "_law_alone" "_law_alone" (defArgs (topS 29)) (defBody (topS 29)) (defScope (topS 29)) .none kV dc pm an cd ct), sl⟩) (c : PySem.W.codeIn K cd "_law_alone" = true) (k : PySem.W.keepIn K (.ref f) = true) :
    DefOk K mg G f21 f (PySem.W.fnOf "_law_alone" "_law_alone" (defArgs (topS 29)) (defBody (topS 29)) (defScope (topS 29)) .none kV dc pm an cd ct) where
  mg := PySem.W.mg_of X Z a
  keep := k
  binds := (fun_mk (st := topS 29) l c k).binds fun _ _ _ _ _ _ us hl => match us, hl with | [_, _], _ => rfl
  np := by decide
  kw := fun m hm => nomatch hm
  kp := fun q hq => nomatch hq
  body := ⟨_, topS 29, fun_mk l c k, s21, c21⟩
theorem d22 {f : Addr} {od an : Option Addr} {sl : Array (Option Value)} {oc kV dc pm cd ct : Value} (X : K.In h) (Z : h.Ns mainGlobals mg) (a : PySem.W.nsIn K mainGlobals "law" = some (some (.ref f)))
    (l : K.lookup f = some ⟨oc, od, .func (PySem.W.fnOf "law" "law" (defArgs (topS 30)) (defBody (topS 30)) (defScope (topS 30)) .none kV dc pm an cd ct), sl⟩) (c : PySem.W.codeIn K cd "law" = true) (k : PySem.W.keepIn K (.ref f) = true) :
    DefOk K mg G f22 f (PySem.W.fnOf "law" "law" (defArgs (topS 30)) (defBody (topS 30)) (defScope (topS 30)) .none kV dc pm an cd ct) where
  mg := PySem.W.mg_of X Z a
  keep := k
  binds := (fun_mk (st := topS 30) l c k).binds fun _ _ _ _ _ _ us hl => match us, hl with | [_], _ => rfl
  np := by decide
  kw := fun m hm => nomatch hm
  kp := fun q hq => nomatch hq
  body := ⟨_, topS 30, fun_mk l c k, s22, c22⟩
theorem noMarks (i : Nat) (F : Fn) (hF : G[i]? = some F) (hk : F.mark = true) : False := match i, hF with
  | 0, hF => by cases hF; cases hk
  | 1, hF => by cases hF; cases hk
  | 2, hF => by cases hF; cases hk
  | 3, hF => by cases hF; cases hk
  | 4, hF => by cases hF; cases hk
  | 5, hF => by cases hF; cases hk
  | 6, hF => by cases hF; cases hk
  | 7, hF => by cases hF; cases hk
  | 8, hF => by cases hF; cases hk
  | 9, hF => by cases hF; cases hk
  | 10, hF => by cases hF; cases hk
  | 11, hF => by cases hF; cases hk
  | 12, hF => by cases hF; cases hk
  | 13, hF => by cases hF; cases hk
  | 14, hF => by cases hF; cases hk
  | 15, hF => by cases hF; cases hk
  | 16, hF => by cases hF; cases hk
  | 17, hF => by cases hF; cases hk
  | 18, hF => by cases hF; cases hk
  | 19, hF => by cases hF; cases hk
  | 20, hF => by cases hF; cases hk
  | 21, hF => by cases hF; cases hk
  | 22, hF => by cases hF; cases hk
  | 23, hF => by cases hF; cases hk
  | 24, hF => by cases hF; cases hk
  | 25, hF => by cases hF; cases hk
  | 26, hF => by cases hF; cases hk
  | j + 27, hF => nomatch (show (none : Option Fn) = some F from hF)
theorem noCl (i : Nat) (F : Fn) (cs : List Nat) (hF : G[i]? = some F) (hc : F.cl = some cs) : (i = 23 ∧ F = f23) ∨ (i = 24 ∧ F = f24) ∨ (i = 25 ∧ F = f25) ∨ (i = 26 ∧ F = f26) := match i, hF with
  | 0, hF => by cases hF; cases hc
  | 1, hF => by cases hF; cases hc
  | 2, hF => by cases hF; cases hc
  | 3, hF => by cases hF; cases hc
  | 4, hF => by cases hF; cases hc
  | 5, hF => by cases hF; cases hc
  | 6, hF => by cases hF; cases hc
  | 7, hF => by cases hF; cases hc
  | 8, hF => by cases hF; cases hc
  | 9, hF => by cases hF; cases hc
  | 10, hF => by cases hF; cases hc
  | 11, hF => by cases hF; cases hc
  | 12, hF => by cases hF; cases hc
  | 13, hF => by cases hF; cases hc
  | 14, hF => by cases hF; cases hc
  | 15, hF => by cases hF; cases hc
  | 16, hF => by cases hF; cases hc
  | 17, hF => by cases hF; cases hc
  | 18, hF => by cases hF; cases hc
  | 19, hF => by cases hF; cases hc
  | 20, hF => by cases hF; cases hc
  | 21, hF => by cases hF; cases hc
  | 22, hF => by cases hF; cases hc
  | 23, hF => by cases hF; exact .inl ⟨rfl, rfl⟩
  | 24, hF => by cases hF; exact .inr (.inl ⟨rfl, rfl⟩)
  | 25, hF => by cases hF; exact .inr (.inr (.inl ⟨rfl, rfl⟩))
  | 26, hF => by cases hF; exact .inr (.inr (.inr (⟨rfl, rfl⟩)))
  | j + 27, hF => nomatch (show (none : Option Fn) = some F from hF)
def iniS : Stmt := L2.inClass (topS 1) 0
theorem iniS_ok : iniOk (defBody iniS) = true ∧ iniSc (defScope iniS) = true := by decide +kernel
theorem all_mk {fa : Addr} (X : K.In h) (Z : h.Ns mainGlobals mg) (hfa : mg "law" = some (.ref fa))
    {a0 : Addr} {p0 q0 : Option Addr} {r0 : Array (Option Value)} {t0 u0 v0 w0 x0 y0 : Value} (A0 : PySem.W.nsIn K mainGlobals "is_whole" = some (some (.ref a0)))
    (L0 : K.lookup a0 = some ⟨t0, p0, .func (PySem.W.fnOf "is_whole" "is_whole" (defArgs (topS 6)) (defBody (topS 6)) (defScope (topS 6)) .none u0 v0 w0 q0 x0 y0), r0⟩) (C0 : PySem.W.codeIn K x0 "is_whole" = true) (K0 : PySem.W.keepIn K (.ref a0) = true)
    {a1 : Addr} {p1 q1 : Option Addr} {r1 : Array (Option Value)} {t1 u1 v1 w1 x1 y1 : Value} (A1 : PySem.W.nsIn K mainGlobals "check_list" = some (some (.ref a1)))
    (L1 : K.lookup a1 = some ⟨t1, p1, .func (PySem.W.fnOf "check_list" "check_list" (defArgs (topS 7)) (defBody (topS 7)) (defScope (topS 7)) .none u1 v1 w1 q1 x1 y1), r1⟩) (C1 : PySem.W.codeIn K x1 "check_list" = true) (K1 : PySem.W.keepIn K (.ref a1) = true)
    {a2 : Addr} {p2 q2 : Option Addr} {r2 : Array (Option Value)} {t2 u2 v2 w2 x2 y2 : Value} (A2 : PySem.W.nsIn K mainGlobals "common_of" = some (some (.ref a2)))
    (L2 : K.lookup a2 = some ⟨t2, p2, .func (PySem.W.fnOf "common_of" "common_of" (defArgs (topS 9)) (defBody (topS 9)) (defScope (topS 9)) .none u2 v2 w2 q2 x2 y2), r2⟩) (C2 : PySem.W.codeIn K x2 "common_of" = true) (K2 : PySem.W.keepIn K (.ref a2) = true)
    {a3 : Addr} {p3 q3 : Option Addr} {r3 : Array (Option Value)} {t3 u3 v3 w3 x3 y3 : Value} (A3 : PySem.W.nsIn K mainGlobals "is_fraction" = some (some (.ref a3)))
    (L3 : K.lookup a3 = some ⟨t3, p3, .func (PySem.W.fnOf "is_fraction" "is_fraction" (defArgs (topS 10)) (defBody (topS 10)) (defScope (topS 10)) .none u3 v3 w3 q3 x3 y3), r3⟩) (C3 : PySem.W.codeIn K x3 "is_fraction" = true) (K3 : PySem.W.keepIn K (.ref a3) = true)
    {a4 : Addr} {p4 q4 : Option Addr} {r4 : Array (Option Value)} {t4 u4 v4 w4 x4 y4 : Value} (A4 : PySem.W.nsIn K mainGlobals "check_fraction" = some (some (.ref a4)))
    (L4 : K.lookup a4 = some ⟨t4, p4, .func (PySem.W.fnOf "check_fraction" "check_fraction" (defArgs (topS 11)) (defBody (topS 11)) (defScope (topS 11)) .none u4 v4 w4 q4 x4 y4), r4⟩) (C4 : PySem.W.codeIn K x4 "check_fraction" = true) (K4 : PySem.W.keepIn K (.ref a4) = true)
    {a5 : Addr} {p5 q5 : Option Addr} {r5 : Array (Option Value)} {t5 u5 v5 w5 x5 y5 : Value} (A5 : PySem.W.nsIn K mainGlobals "lowest_of" = some (some (.ref a5)))
    (L5 : K.lookup a5 = some ⟨t5, p5, .func (PySem.W.fnOf "lowest_of" "lowest_of" (defArgs (topS 12)) (defBody (topS 12)) (defScope (topS 12)) .none u5 v5 w5 q5 x5 y5), r5⟩) (C5 : PySem.W.codeIn K x5 "lowest_of" = true) (K5 : PySem.W.keepIn K (.ref a5) = true)
    {a6 : Addr} {p6 q6 : Option Addr} {r6 : Array (Option Value)} {t6 u6 v6 w6 x6 y6 : Value} (A6 : PySem.W.nsIn K mainGlobals "fraction_of" = some (some (.ref a6)))
    (L6 : K.lookup a6 = some ⟨t6, p6, .func (PySem.W.fnOf "fraction_of" "fraction_of" (defArgs (topS 13)) (defBody (topS 13)) (defScope (topS 13)) .none u6 v6 w6 q6 x6 y6), r6⟩) (C6 : PySem.W.codeIn K x6 "fraction_of" = true) (K6 : PySem.W.keepIn K (.ref a6) = true)
    {a7 : Addr} {p7 q7 : Option Addr} {r7 : Array (Option Value)} {t7 u7 v7 w7 x7 y7 : Value} (A7 : PySem.W.nsIn K mainGlobals "plus_of" = some (some (.ref a7)))
    (L7 : K.lookup a7 = some ⟨t7, p7, .func (PySem.W.fnOf "plus_of" "plus_of" (defArgs (topS 14)) (defBody (topS 14)) (defScope (topS 14)) .none u7 v7 w7 q7 x7 y7), r7⟩) (C7 : PySem.W.codeIn K x7 "plus_of" = true) (K7 : PySem.W.keepIn K (.ref a7) = true)
    {a8 : Addr} {p8 q8 : Option Addr} {r8 : Array (Option Value)} {t8 u8 v8 w8 x8 y8 : Value} (A8 : PySem.W.nsIn K mainGlobals "times_of" = some (some (.ref a8)))
    (L8 : K.lookup a8 = some ⟨t8, p8, .func (PySem.W.fnOf "times_of" "times_of" (defArgs (topS 15)) (defBody (topS 15)) (defScope (topS 15)) .none u8 v8 w8 q8 x8 y8), r8⟩) (C8 : PySem.W.codeIn K x8 "times_of" = true) (K8 : PySem.W.keepIn K (.ref a8) = true)
    {a9 : Addr} {p9 q9 : Option Addr} {r9 : Array (Option Value)} {t9 u9 v9 w9 x9 y9 : Value} (A9 : PySem.W.nsIn K mainGlobals "less_than" = some (some (.ref a9)))
    (L9 : K.lookup a9 = some ⟨t9, p9, .func (PySem.W.fnOf "less_than" "less_than" (defArgs (topS 16)) (defBody (topS 16)) (defScope (topS 16)) .none u9 v9 w9 q9 x9 y9), r9⟩) (C9 : PySem.W.codeIn K x9 "less_than" = true) (K9 : PySem.W.keepIn K (.ref a9) = true)
    {a10 : Addr} {p10 q10 : Option Addr} {r10 : Array (Option Value)} {t10 u10 v10 w10 x10 y10 : Value} (A10 : PySem.W.nsIn K mainGlobals "check_fractions" = some (some (.ref a10)))
    (L10 : K.lookup a10 = some ⟨t10, p10, .func (PySem.W.fnOf "check_fractions" "check_fractions" (defArgs (topS 17)) (defBody (topS 17)) (defScope (topS 17)) .none u10 v10 w10 q10 x10 y10), r10⟩) (C10 : PySem.W.codeIn K x10 "check_fractions" = true) (K10 : PySem.W.keepIn K (.ref a10) = true)
    {a11 : Addr} {p11 q11 : Option Addr} {r11 : Array (Option Value)} {t11 u11 v11 w11 x11 y11 : Value} (A11 : PySem.W.nsIn K mainGlobals "sum_of" = some (some (.ref a11)))
    (L11 : K.lookup a11 = some ⟨t11, p11, .func (PySem.W.fnOf "sum_of" "sum_of" (defArgs (topS 18)) (defBody (topS 18)) (defScope (topS 18)) .none u11 v11 w11 q11 x11 y11), r11⟩) (C11 : PySem.W.codeIn K x11 "sum_of" = true) (K11 : PySem.W.keepIn K (.ref a11) = true)
    {a12 : Addr} {p12 q12 : Option Addr} {r12 : Array (Option Value)} {t12 u12 v12 w12 x12 y12 : Value} (A12 : PySem.W.nsIn K mainGlobals "product_of" = some (some (.ref a12)))
    (L12 : K.lookup a12 = some ⟨t12, p12, .func (PySem.W.fnOf "product_of" "product_of" (defArgs (topS 19)) (defBody (topS 19)) (defScope (topS 19)) .none u12 v12 w12 q12 x12 y12), r12⟩) (C12 : PySem.W.codeIn K x12 "product_of" = true) (K12 : PySem.W.keepIn K (.ref a12) = true)
    {a13 : Addr} {p13 q13 : Option Addr} {r13 : Array (Option Value)} {t13 u13 v13 w13 x13 y13 : Value} (A13 : PySem.W.nsIn K mainGlobals "is_less" = some (some (.ref a13)))
    (L13 : K.lookup a13 = some ⟨t13, p13, .func (PySem.W.fnOf "is_less" "is_less" (defArgs (topS 20)) (defBody (topS 20)) (defScope (topS 20)) .none u13 v13 w13 q13 x13 y13), r13⟩) (C13 : PySem.W.codeIn K x13 "is_less" = true) (K13 : PySem.W.keepIn K (.ref a13) = true)
    {a14 : Addr} {p14 q14 : Option Addr} {r14 : Array (Option Value)} {t14 u14 v14 w14 x14 y14 : Value} (A14 : PySem.W.nsIn K mainGlobals "_law_hash" = some (some (.ref a14)))
    (L14 : K.lookup a14 = some ⟨t14, p14, .func (PySem.W.fnOf "_law_hash" "_law_hash" (defArgs (topS 22)) (defBody (topS 22)) (defScope (topS 22)) .none u14 v14 w14 q14 x14 y14), r14⟩) (C14 : PySem.W.codeIn K x14 "_law_hash" = true) (K14 : PySem.W.keepIn K (.ref a14) = true)
    {a15 : Addr} {p15 q15 : Option Addr} {r15 : Array (Option Value)} {t15 u15 v15 w15 x15 y15 : Value} (A15 : PySem.W.nsIn K mainGlobals "_law_cell" = some (some (.ref a15)))
    (L15 : K.lookup a15 = some ⟨t15, p15, .func (PySem.W.fnOf "_law_cell" "_law_cell" (defArgs (topS 23)) (defBody (topS 23)) (defScope (topS 23)) .none u15 v15 w15 q15 x15 y15), r15⟩) (C15 : PySem.W.codeIn K x15 "_law_cell" = true) (K15 : PySem.W.keepIn K (.ref a15) = true)
    {a16 : Addr} {p16 q16 : Option Addr} {r16 : Array (Option Value)} {t16 u16 v16 w16 x16 y16 : Value} (A16 : PySem.W.nsIn K mainGlobals "_law_generator" = some (some (.ref a16)))
    (L16 : K.lookup a16 = some ⟨t16, p16, .func (PySem.W.fnOf "_law_generator" "_law_generator" (defArgs (topS 24)) (defBody (topS 24)) (defScope (topS 24)) .none u16 v16 w16 q16 x16 y16), r16⟩) (C16 : PySem.W.codeIn K x16 "_law_generator" = true) (K16 : PySem.W.keepIn K (.ref a16) = true)
    {a17 : Addr} {p17 q17 : Option Addr} {r17 : Array (Option Value)} {t17 u17 v17 w17 x17 y17 : Value} (A17 : PySem.W.nsIn K mainGlobals "_law_random" = some (some (.ref a17)))
    (L17 : K.lookup a17 = some ⟨t17, p17, .func (PySem.W.fnOf "_law_random" "_law_random" (defArgs (topS 25)) (defBody (topS 25)) (defScope (topS 25)) .none u17 v17 w17 q17 x17 y17), r17⟩) (C17 : PySem.W.codeIn K x17 "_law_random" = true) (K17 : PySem.W.keepIn K (.ref a17) = true)
    {a18 : Addr} {p18 q18 : Option Addr} {r18 : Array (Option Value)} {t18 u18 v18 w18 x18 y18 : Value} (A18 : PySem.W.nsIn K mainGlobals "_law_pick" = some (some (.ref a18)))
    (L18 : K.lookup a18 = some ⟨t18, p18, .func (PySem.W.fnOf "_law_pick" "_law_pick" (defArgs (topS 26)) (defBody (topS 26)) (defScope (topS 26)) .none u18 v18 w18 q18 x18 y18), r18⟩) (C18 : PySem.W.codeIn K x18 "_law_pick" = true) (K18 : PySem.W.keepIn K (.ref a18) = true)
    {a19 : Addr} {p19 q19 : Option Addr} {r19 : Array (Option Value)} {t19 u19 v19 w19 x19 y19 : Value} (A19 : PySem.W.nsIn K mainGlobals "_law_call" = some (some (.ref a19)))
    (L19 : K.lookup a19 = some ⟨t19, p19, .func (PySem.W.fnOf "_law_call" "_law_call" (defArgs (topS 27)) (defBody (topS 27)) (defScope (topS 27)) .none u19 v19 w19 q19 x19 y19), r19⟩) (C19 : PySem.W.codeIn K x19 "_law_call" = true) (K19 : PySem.W.keepIn K (.ref a19) = true)
    {a20 : Addr} {p20 q20 : Option Addr} {r20 : Array (Option Value)} {t20 u20 v20 w20 x20 y20 : Value} (A20 : PySem.W.nsIn K mainGlobals "_law_caught" = some (some (.ref a20)))
    (L20 : K.lookup a20 = some ⟨t20, p20, .func (PySem.W.fnOf "_law_caught" "_law_caught" (defArgs (topS 28)) (defBody (topS 28)) (defScope (topS 28)) .none u20 v20 w20 q20 x20 y20), r20⟩) (C20 : PySem.W.codeIn K x20 "_law_caught" = true) (K20 : PySem.W.keepIn K (.ref a20) = true)
    {a21 : Addr} {p21 q21 : Option Addr} {r21 : Array (Option Value)} {t21 u21 v21 w21 x21 y21 : Value} (A21 : PySem.W.nsIn K mainGlobals "_law_alone" = some (some (.ref a21)))
    (L21 : K.lookup a21 = some ⟨t21, p21, .func (PySem.W.fnOf "_law_alone" "_law_alone" (defArgs (topS 29)) (defBody (topS 29)) (defScope (topS 29)) .none u21 v21 w21 q21 x21 y21), r21⟩) (C21 : PySem.W.codeIn K x21 "_law_alone" = true) (K21 : PySem.W.keepIn K (.ref a21) = true)
    {a22 : Addr} {p22 q22 : Option Addr} {r22 : Array (Option Value)} {t22 u22 v22 w22 x22 y22 : Value} (A22 : PySem.W.nsIn K mainGlobals "law" = some (some (.ref a22)))
    (L22 : K.lookup a22 = some ⟨t22, p22, .func (PySem.W.fnOf "law" "law" (defArgs (topS 30)) (defBody (topS 30)) (defScope (topS 30)) .none u22 v22 w22 q22 x22 y22), r22⟩) (C22 : PySem.W.codeIn K x22 "law" = true) (K22 : PySem.W.keepIn K (.ref a22) = true)
    (z_len : PySem.W.nsIn K mainGlobals "len" = some none)
    (z_int : PySem.W.nsIn K mainGlobals "int" = some none)
    (z_max : PySem.W.nsIn K mainGlobals "max" = some none)
    (z_min : PySem.W.nsIn K mainGlobals "min" = some none)
    (z_sum : PySem.W.nsIn K mainGlobals "sum" = some none)
    (z_repr : PySem.W.nsIn K mainGlobals "repr" = some none)
    (z_all : PySem.W.nsIn K mainGlobals "all" = some none)
    (z_any : PySem.W.nsIn K mainGlobals "any" = some none)
    (z_list : PySem.W.nsIn K mainGlobals "list" = some none)
    (z_tuple : PySem.W.nsIn K mainGlobals "tuple" = some none)
    (z_abs : PySem.W.nsIn K mainGlobals "abs" = some none)
    (z_isinstance : PySem.W.nsIn K mainGlobals "isinstance" = some none)
    (z_bool : PySem.W.nsIn K mainGlobals "bool" = some none)
    (z_str : PySem.W.nsIn K mainGlobals "str" = some none)
    (z_dict : PySem.W.nsIn K mainGlobals "dict" = some none)
    (z_range : PySem.W.nsIn K mainGlobals "range" = some none)
    (z_zip : PySem.W.nsIn K mainGlobals "zip" = some none)
    (z_enumerate : PySem.W.nsIn K mainGlobals "enumerate" = some none)
    (z_sorted : PySem.W.nsIn K mainGlobals "sorted" = some none)
    (z_set : PySem.W.nsIn K mainGlobals "set" = some none)
    (z_ValueError : PySem.W.nsIn K mainGlobals "ValueError" = some none)
    {e23 : Addr} (Y23 : PySem.W.nsIn K mainGlobals "LoneError" = some (some (.ref e23)))
    {e24 : Addr} (Y24 : PySem.W.nsIn K mainGlobals "InvalidNumber" = some (some (.ref e24)))
    {e25 : Addr} (Y25 : PySem.W.nsIn K mainGlobals "InvalidFraction" = some (some (.ref e25)))
    {e26 : Addr} (Y26 : PySem.W.nsIn K mainGlobals "InvalidList" = some (some (.ref e26)))
    {fI cc cda : Addr} {ioc ikV idc ipm ict c1 c5 : Value} {iod ian c2 c6 : Option Addr} {isl c4 c7 : Array (Option Value)} {vs : Array Value} {file : Str} {tf : Tok}
    (FI : PySem.W.findIn K (.ref e23) "__init__" = some (some (.ref fI))) (LI : K.lookup fI = some ⟨ioc, iod, .func (PySem.W.ksFn "__init__" "LoneError.__init__" (defArgs iniS) (defBody iniS) (defScope iniS) .none ikV idc ipm ian (.ref cda) ict cc), isl⟩)
    (CI : PySem.W.codeIn K (.ref cda) "LoneError.__init__" = true) (TI : PySem.W.typeIn K (.ref fI) = some (.type "function")) (KD : K.lookup cda = some ⟨c1, c2, .fields vs, c4⟩) (V2 : vs[2]? = some (.str file tf)) (VF : ((PySem.Challenge.rw_lonehall_k04_fractions_refused.prog.main.file : Str) == file) = true)
    (HC : K.lookup cc = some ⟨c5, c6, .cell (some (.ref e23)), c7⟩) (SU : PySem.W.nsIn K mainGlobals "super" = some none) (CD : PySem.W.isClsIn K e23 = true) (OP : PySem.W.nsIn K cStatics "thirdparty.any" = some none)
    (CA : clAll K e23 fI [([23, 24, 25, 26], 23, e23), ([24], 24, e24), ([25], 25, e25), ([26], 26, e26)] = true)
    {so : Obj} (sm : K.lookup sysModules = some so) (zst : PySem.W.nsIn K cStatics digK = some none) (zok : PySem.W.nsOkIn K cStatics = true) :
    ∃ (fd : FuncData) (sp : Sp), (∀ (s : Shared) (u : Value), BindsTo s fd ⟨[u], []⟩ [("script", u)]) ∧ (∀ base : Heap, K.In base → base.Ns mainGlobals mg → FnG PySem.Challenge.rw_lonehall_k04_fractions_refused.prog w K mg base 42 fa fd ["script"] sp) ∧
      ∀ (a : Addr) (ns : List Int) (H : Hp), ns.length ≤ 63 → (∀ z ∈ ns, Builtin.Int.intBits z ≤ 1048576) → Rd H a (.lst (ns.map V.int)) → sp [.ref a] H (fun v _ => v = .bl true) fun _ _ _ => False := by
  have e := hfa.symm.trans (PySem.W.mg_of X Z A22)
  cases e
  letI : Plc := plcOf G mg
  have CT : ClTab G mg [([23, 24, 25, 26], 23, e23), ([24], 24, e24), ([25], 25, e25), ([26], 26, e26)] := fun i F cs hF hc => by
    rcases noCl i F cs hF hc with ⟨rfl, rfl⟩ | ⟨rfl, rfl⟩ | ⟨rfl, rfl⟩ | ⟨rfl, rfl⟩
    · cases hc; exact ⟨e23, by simp, PySem.W.mg_of X Z Y23⟩
    · cases hc; exact ⟨e24, by simp, PySem.W.mg_of X Z Y24⟩
    · cases hc; exact ⟨e25, by simp, PySem.W.mg_of X Z Y25⟩
    · cases hc; exact ⟨e26, by simp, PySem.W.mg_of X Z Y26⟩
  have IK : IniK K PySem.Challenge.rw_lonehall_k04_fractions_refused.prog mg "LoneError.__init__" (defArgs iniS) (defBody iniS) (defScope iniS) e23 fI cc cda (PySem.W.ksFn "__init__" "LoneError.__init__" (defArgs iniS) (defBody iniS) (defScope iniS) .none ikV idc ipm ian (.ref cda) ict cc) :=
    ⟨⟨_, _, _, _, _, _, _, _, _, rfl, LI⟩, ⟨_, rfl, rfl⟩, CI, ⟨_, _, _, _, _, _, KD, V2, VF⟩, by decide +kernel, ⟨_, _, _, HC⟩, PySem.W.mg_none_of X Z SU, Option.isSome_iff_exists.mp CD, OP⟩
  have BI : Binds K (PySem.W.ksFn "__init__" "LoneError.__init__" (defArgs iniS) (defBody iniS) (defScope iniS) .none ikV idc ipm ian (.ref cda) ict cc) ["self", "value"] [] := fun s us hk hl => match us, hl with | [_, _], _ => .of_eq rfl
  have P : ProgOk PySem.Challenge.rw_lonehall_k04_fractions_refused.prog K mg G := {
    fav := fun _ _ h => h
    fad := fun i F a h1 h2 h3 => ⟨F, h1, h2, h3⟩
    cav := cav_ok CT CA
    cls := cls_ok CT CA TI BI IK iniS_ok.2 iniS_ok.1
    sysm := ⟨_, sm⟩
    dig := ⟨zst, zok⟩
    mks := fun i F hF hk => (noMarks i F hF hk).elim
    mlev := fun i F hF hk => (noMarks i F hF hk).elim
    mimm := fun i F hF hk => (noMarks i F hF hk).elim
    blt := fun x hx => by
      unfold bltNames at hx
      rcases List.mem_cons.mp hx with e | hx
      · rw [e]; exact PySem.W.mg_none_of X Z z_len
      rcases List.mem_cons.mp hx with e | hx
      · rw [e]; exact PySem.W.mg_none_of X Z z_int
      rcases List.mem_cons.mp hx with e | hx
      · rw [e]; exact PySem.W.mg_none_of X Z z_max
      rcases List.mem_cons.mp hx with e | hx
      · rw [e]; exact PySem.W.mg_none_of X Z z_min
      rcases List.mem_cons.mp hx with e | hx
      · rw [e]; exact PySem.W.mg_none_of X Z z_sum
      rcases List.mem_cons.mp hx with e | hx
      · rw [e]; exact PySem.W.mg_none_of X Z z_repr
      rcases List.mem_cons.mp hx with e | hx
      · rw [e]; exact PySem.W.mg_none_of X Z z_all
      rcases List.mem_cons.mp hx with e | hx
      · rw [e]; exact PySem.W.mg_none_of X Z z_any
      rcases List.mem_cons.mp hx with e | hx
      · rw [e]; exact PySem.W.mg_none_of X Z z_list
      rcases List.mem_cons.mp hx with e | hx
      · rw [e]; exact PySem.W.mg_none_of X Z z_tuple
      rcases List.mem_cons.mp hx with e | hx
      · rw [e]; exact PySem.W.mg_none_of X Z z_abs
      rcases List.mem_cons.mp hx with e | hx
      · rw [e]; exact PySem.W.mg_none_of X Z z_isinstance
      rcases List.mem_cons.mp hx with e | hx
      · rw [e]; exact PySem.W.mg_none_of X Z z_bool
      rcases List.mem_cons.mp hx with e | hx
      · rw [e]; exact PySem.W.mg_none_of X Z z_str
      rcases List.mem_cons.mp hx with e | hx
      · rw [e]; exact PySem.W.mg_none_of X Z z_dict
      rcases List.mem_cons.mp hx with e | hx
      · rw [e]; exact PySem.W.mg_none_of X Z z_range
      rcases List.mem_cons.mp hx with e | hx
      · rw [e]; exact PySem.W.mg_none_of X Z z_zip
      rcases List.mem_cons.mp hx with e | hx
      · rw [e]; exact PySem.W.mg_none_of X Z z_enumerate
      rcases List.mem_cons.mp hx with e | hx
      · rw [e]; exact PySem.W.mg_none_of X Z z_sorted
      rcases List.mem_cons.mp hx with e | hx
      · rw [e]; exact PySem.W.mg_none_of X Z z_set
      rcases List.mem_cons.mp hx with e | hx
      · rw [e]; exact PySem.W.mg_none_of X Z z_ValueError
      cases hx
    cons := fun i F d hF hd => match i, hF with
      | 0, hF => by cases hF; cases hd
      | 1, hF => by cases hF; cases hd
      | 2, hF => by cases hF; cases hd
      | 3, hF => by cases hF; cases hd
      | 4, hF => by cases hF; cases hd
      | 5, hF => by cases hF; cases hd
      | 6, hF => by cases hF; cases hd
      | 7, hF => by cases hF; cases hd
      | 8, hF => by cases hF; cases hd
      | 9, hF => by cases hF; cases hd
      | 10, hF => by cases hF; cases hd
      | 11, hF => by cases hF; cases hd
      | 12, hF => by cases hF; cases hd
      | 13, hF => by cases hF; cases hd
      | 14, hF => by cases hF; cases hd
      | 15, hF => by cases hF; cases hd
      | 16, hF => by cases hF; cases hd
      | 17, hF => by cases hF; cases hd
      | 18, hF => by cases hF; cases hd
      | 19, hF => by cases hF; cases hd
      | 20, hF => by cases hF; cases hd
      | 21, hF => by cases hF; cases hd
      | 22, hF => by cases hF; cases hd
      | 23, hF => by cases hF; cases hd; exact ⟨_, .ref e23, PySem.W.mg_of X Z Y23, rfl, fun _ _ => .cls ⟨f23, rfl, rfl, PySem.W.mg_of X Z Y23⟩⟩
      | 24, hF => by cases hF; cases hd; exact ⟨_, .ref e24, PySem.W.mg_of X Z Y24, rfl, fun _ _ => .cls ⟨f24, rfl, rfl, PySem.W.mg_of X Z Y24⟩⟩
      | 25, hF => by cases hF; cases hd; exact ⟨_, .ref e25, PySem.W.mg_of X Z Y25, rfl, fun _ _ => .cls ⟨f25, rfl, rfl, PySem.W.mg_of X Z Y25⟩⟩
      | 26, hF => by cases hF; cases hd; exact ⟨_, .ref e26, PySem.W.mg_of X Z Y26, rfl, fun _ _ => .cls ⟨f26, rfl, rfl, PySem.W.mg_of X Z Y26⟩⟩
      | j + 27, hF => nomatch (show (none : Option Fn) = some F from hF)
    defs := fun i F hF hk => match i, hF with
      | 23, hF => by cases hF; cases hk
      | 24, hF => by cases hF; cases hk
      | 25, hF => by cases hF; cases hk
      | 26, hF => by cases hF; cases hk
      | 0, hF => by cases hF; exact ⟨_, _, d0 X Z A0 L0 C0 K0⟩
      | 1, hF => by cases hF; exact ⟨_, _, d1 X Z A1 L1 C1 K1⟩
      | 2, hF => by cases hF; exact ⟨_, _, d2 X Z A2 L2 C2 K2⟩
      | 3, hF => by cases hF; exact ⟨_, _, d3 X Z A3 L3 C3 K3⟩
      | 4, hF => by cases hF; exact ⟨_, _, d4 X Z A4 L4 C4 K4⟩
      | 5, hF => by cases hF; exact ⟨_, _, d5 X Z A5 L5 C5 K5⟩
      | 6, hF => by cases hF; exact ⟨_, _, d6 X Z A6 L6 C6 K6⟩
      | 7, hF => by cases hF; exact ⟨_, _, d7 X Z A7 L7 C7 K7⟩
      | 8, hF => by cases hF; exact ⟨_, _, d8 X Z A8 L8 C8 K8⟩
      | 9, hF => by cases hF; exact ⟨_, _, d9 X Z A9 L9 C9 K9⟩
      | 10, hF => by cases hF; exact ⟨_, _, d10 X Z A10 L10 C10 K10⟩
      | 11, hF => by cases hF; exact ⟨_, _, d11 X Z A11 L11 C11 K11⟩
      | 12, hF => by cases hF; exact ⟨_, _, d12 X Z A12 L12 C12 K12⟩
      | 13, hF => by cases hF; exact ⟨_, _, d13 X Z A13 L13 C13 K13⟩
      | 14, hF => by cases hF; exact ⟨_, _, d14 X Z A14 L14 C14 K14⟩
      | 15, hF => by cases hF; exact ⟨_, _, d15 X Z A15 L15 C15 K15⟩
      | 16, hF => by cases hF; exact ⟨_, _, d16 X Z A16 L16 C16 K16⟩
      | 17, hF => by cases hF; exact ⟨_, _, d17 X Z A17 L17 C17 K17⟩
      | 18, hF => by cases hF; exact ⟨_, _, d18 X Z A18 L18 C18 K18⟩
      | 19, hF => by cases hF; exact ⟨_, _, d19 X Z A19 L19 C19 K19⟩
      | 20, hF => by cases hF; exact ⟨_, _, d20 X Z A20 L20 C20 K20⟩
      | 21, hF => by cases hF; exact ⟨_, _, d21 X Z A21 L21 C21 K21⟩
      | 22, hF => by cases hF; exact ⟨_, _, d22 X Z A22 L22 C22 K22⟩
      | j + 27, hF => nomatch (show (none : Option Fn) = some F from hF) }
  exact ⟨_, spF xrP (run G 40) 22, fun s v => .of_eq rfl, fun base _ _ => run_spec P 40 22 f22 _ _ rfl (d22 X Z A22 L22 C22 K22), fun a ns H h1 h2 h3 => script_sp (plain ns h1 h2) (Nat.le_trans h1 (by decide)) h3 fun _ => rfl⟩
end
end K04
open PySem PySem.W PyProof.Rows
set_option maxHeartbeats 0 in
theorem PySem.Challenge.cw_lonehall_k04_fractions_refused_holds : PySem.Challenge.rw_lonehall_k04_fractions_refused.Holds := by
  w_on; o_law; x_head; (case hw => w_witness2)
  k_fill
  refine TL.walk_G (l := PySem.Challenge.rw_lonehall_k04_fractions_refused) (n := 63) (k := 42) (x := "script") rfl (by decide) rfl ⟨rfl, by decide, by decide⟩ (fun w h Y => PySem.W.kIn_of Y) (fun w => ?noL) ?F
  case noL => exact rfl
  case F =>
    intro w mg fa h KX Z hmg
    refine' K04.all_mk KX Z hmg ?A0 ?L0 ?C0 ?K0 ?A1 ?L1 ?C1 ?K1 ?A2 ?L2 ?C2 ?K2 ?A3 ?L3 ?C3 ?K3 ?A4 ?L4 ?C4 ?K4 ?A5 ?L5 ?C5 ?K5 ?A6 ?L6 ?C6 ?K6 ?A7 ?L7 ?C7 ?K7 ?A8 ?L8 ?C8 ?K8 ?A9 ?L9 ?C9 ?K9 ?A10 ?L10 ?C10 ?K10 ?A11 ?L11 ?C11 ?K11 ?A12 ?L12 ?C12 ?K12 ?A13 ?L13 ?C13 ?K13 ?A14 ?L14 ?C14 ?K14 ?A15 ?L15 ?C15 ?K15 ?A16 ?L16 ?C16 ?K16 ?A17 ?L17 ?C17 ?K17 ?A18 ?L18 ?C18 ?K18 ?A19 ?L19 ?C19 ?K19 ?A20 ?L20 ?C20 ?K20 ?A21 ?L21 ?C21 ?K21 ?A22 ?L22 ?C22 ?K22 ?zlen ?zint ?zmax ?zmin ?zsum ?zrepr ?zall ?zany ?zlist ?ztuple ?zabs ?zisinstance ?zbool ?zstr ?zdict ?zrange ?zzip ?zenumerate ?zsorted ?zset ?zValueError ?Y23 ?Y24 ?Y25 ?Y26 ?FI ?LI ?CI ?TI ?KD ?V2 ?VF ?HC ?SU ?CD ?OP ?CA ?sm ?zst ?zok
    (case A0 => k_is); (case L0 => k_is); (case C0 => k_is); (case K0 => k_is); (case A1 => k_is); (case L1 => k_is); (case C1 => k_is); (case K1 => k_is)
    (case A2 => k_is); (case L2 => k_is); (case C2 => k_is); (case K2 => k_is); (case A3 => k_is); (case L3 => k_is); (case C3 => k_is); (case K3 => k_is)
    (case A4 => k_is); (case L4 => k_is); (case C4 => k_is); (case K4 => k_is); (case A5 => k_is); (case L5 => k_is); (case C5 => k_is); (case K5 => k_is)
    (case A6 => k_is); (case L6 => k_is); (case C6 => k_is); (case K6 => k_is); (case A7 => k_is); (case L7 => k_is); (case C7 => k_is); (case K7 => k_is)
    (case A8 => k_is); (case L8 => k_is); (case C8 => k_is); (case K8 => k_is); (case A9 => k_is); (case L9 => k_is); (case C9 => k_is); (case K9 => k_is)
    (case A10 => k_is); (case L10 => k_is); (case C10 => k_is); (case K10 => k_is); (case A11 => k_is); (case L11 => k_is); (case C11 => k_is); (case K11 => k_is)
    (case A12 => k_is); (case L12 => k_is); (case C12 => k_is); (case K12 => k_is); (case A13 => k_is); (case L13 => k_is); (case C13 => k_is); (case K13 => k_is)
    (case A14 => k_is); (case L14 => k_is); (case C14 => k_is); (case K14 => k_is); (case A15 => k_is); (case L15 => k_is); (case C15 => k_is); (case K15 => k_is)
    (case A16 => k_is); (case L16 => k_is); (case C16 => k_is); (case K16 => k_is); (case A17 => k_is); (case L17 => k_is); (case C17 => k_is); (case K17 => k_is)
    (case A18 => k_is); (case L18 => k_is); (case C18 => k_is); (case K18 => k_is); (case A19 => k_is); (case L19 => k_is); (case C19 => k_is); (case K19 => k_is)
    (case A20 => k_is); (case L20 => k_is); (case C20 => k_is); (case K20 => k_is); (case A21 => k_is); (case L21 => k_is); (case C21 => k_is); (case K21 => k_is)
    (case A22 => k_is); (case L22 => k_is); (case C22 => k_is); (case K22 => k_is); (case zlen => k_is); (case zint => k_is); (case zmax => k_is); (case zmin => k_is)
    (case zsum => k_is); (case zrepr => k_is); (case zall => k_is); (case zany => k_is); (case zlist => k_is); (case ztuple => k_is); (case zabs => k_is); (case zisinstance => k_is)
    (case zbool => k_is); (case zstr => k_is); (case zdict => k_is); (case zrange => k_is); (case zzip => k_is); (case zenumerate => k_is); (case zsorted => k_is); (case zset => k_is)
    (case zValueError => k_is); (case Y23 => k_is); (case Y24 => k_is); (case Y25 => k_is); (case Y26 => k_is); (case FI => k_is); (case LI => k_is); (case CI => k_is)
    (case TI => k_is); (case KD => k_is); (case V2 => rfl); (case VF => decide +kernel); (case HC => k_is); (case SU => k_is); (case CD => k_is); (case OP => k_is)
    (case CA => kernel_rfl); (case sm => k_is); (case zst => k_is); (case zok => kernel_rfl)
