import PyProof.Rows.All
import Wide.All
import OpenK.AllK
import Wide.FinOn
import HandS.ForMost
import HandS.Defaults
import HandS.IsInst
import HandS.Property
import HandS.MakeKwOnly
import HandS.Wide
import HandS.Evl
import KE.KDictKeyed
import KE.KDictCopyH
import KE.SortData
import HandS.Deep
import HandS.Flow
import HandS.Style
import HandS.TupAny
import HandS.TupMul
import HandS.DeepEq
import HandS.Small
import HandS.TupLe
import HandS.RaiseOp
import HandS.Conv
import HandS.DictComp
import HandS.MakeKw
import HandS.OwnEq
import HandS.ExcValue
import KE.KDictDisplayH
import HandS.Iter
import OpenK.KOps
import HandS.Head0
import HandS.Head1
import HandS.Head2
import HandS.HeadEnd
import HandS.HeadHook1
import HandS.HeadHook2
import HandS.EndBits
import KE.KStateDown
import PySem.Challenge.RW_sparkrows_k79_fields_by_hand
set_option Elab.async false
section
/-! Mini: a small interpreter for the programs' texts. Values are trees (numbers, texts, tuples, lists that nobody changes any more, instances that nobody changes any more) and references to cells of a layered store. -/
set_option autoImplicit false
namespace Mini

/-! ### values -/
inductive MV where
  | undef | non
  | bl (b : Bool) | int (i : Int) | str (s : List Nat)
  | tup (xs : List MV) | lst (xs : List MV) | dct (ks vs : List MV)
  | ins (c : Nat) (fs : List MV)
  | ref (l k : Nat)
  deriving Inhabited

inductive Cell where
  | lst (xs : List MV) | dct (ks vs : List MV) | ins (c : Nat) (fs : List MV)
  /-- a dict that a loop walks: read, not written -/
  | hold (ks vs : List MV)
  deriving Inhabited

abbrev Layer := List Cell

inductive Res (α : Type) where
  | ok (a : α) (T : Layer)
  | exc (c : Nat) (p : List MV) (T : Layer)
  | stuck

namespace Res
def bind {α β : Type} : Res α → (α → Layer → Res β) → Res β
  | .ok a T, f => f a T
  | .exc c p T, _ => .exc c p T
  | .stuck, _ => .stuck
end Res

/-- plain data: no reference, no instance, no dict, at most so many levels -/
def dat : Nat → MV → Bool
  | _, .non => true
  | _, .bl _ => true
  | _, .int _ => true
  | _, .str s => s.all fun c => decide (c < 1114112)
  | n + 1, .tup xs => xs.all (dat n)
  | n + 1, .lst xs => xs.all (dat n)
  | _, _ => false
def MV.data (x : MV) : Bool := dat 40 x

def b2i (b : Bool) : Int := if b then 1 else 0

mutual
/-- Python's == on data -/
def eqv : MV → MV → Bool
  | .non, .non => true
  | .bl a, .bl b => a == b
  | .bl a, .int j => b2i a == j
  | .int i, .bl b => i == b2i b
  | .int i, .int j => i == j
  | .str x, .str y => x == y
  | .tup xs, .tup ys => eqvs xs ys
  | .lst xs, .lst ys => eqvs xs ys
  | _, _ => false
def eqvs : List MV → List MV → Bool
  | [], [] => true
  | x :: xs, y :: ys => eqv x y && eqvs xs ys
  | _, _ => false
end

/-! ### the text -/
inductive Op2 where | add | sub | mul | fdiv | mod | pow
  deriving DecidableEq
inductive CmpO where | eq | ne | lt | le | gt | ge | is_ | isn | in_ | nin
  deriving DecidableEq
inductive BTy where | int | bool | str | list | tuple | dict
  deriving DecidableEq
/-- built-in functions and types that are called by name -/
inductive Blt where | len | sum | min1 | minN | min2 | max2 | int1 | str1 | repr1 | tuple1
  deriving DecidableEq
/-- methods of built-in types -/
inductive BM where | append | extend | insert | pop0 | pop1 | clear | index | get2 | join | split | startswith | replace | upper
  deriving DecidableEq
/-- how an actual parameter comes: an argument by its place, a default -/
inductive AM where | a (i : Nat) | d (v : MV)

mutual
inductive E where
  | const (v : MV)
  | var (i : Nat)
  | tup (es : Es)
  | fz (l : L)
  | cell (l : L)
  | bin (op : Op2) (a b : E)
  | neg (a : E)
  | not (a : E)
  | and (a b : E)
  | or (a b : E)
  | cmp (op : CmpO) (a b : E)
  | chain (op op' : CmpO) (a b c : E)
  | ite (c a b : E)
  | fld (k : Bool) (a : E) (f : Nat)
  | idx (a i : E)
  | sli (a : E) (lo hi : Oe)
  | call (k : Bool) (f : Nat) (am : List AM) (es : Es)
  | meth (k : Bool) (o : E) (m : Nat) (am : List AM) (es : Es)
  | own (m : Nat) (es : Es)
  | blt (b : Blt) (es : Es)
  | bm (o : E) (m : BM) (es : Es)
  | isi (a : E) (ts : List BTy) (cs : List Nat)
  | fstr (es : Es)
inductive Oe where
  | none | some (e : E)
inductive Es where
  | nil | cons (e : E) (es : Es)
/-- expressions that make a new list or dict -/
inductive L where
  | disp (es : Es)
  | cat (a b : E)
  | rep (a b : E)
  | list (e : E)
  | sorted (e : E)
  | sli (a : E) (lo hi : Oe)
  | comp (own : List Nat) (t : Tg) (it : It) (cs : Es) (e : E)
  | comp2 (own own2 : List Nat) (t : Tg) (it : It) (cs : Es) (t2 : Tg) (it2 : It) (cs2 : Es) (e : E)
  | ddisp (ps : KVs)
  | dcomp (own : List Nat) (t : Tg) (it : It) (cs : Es) (k v : E)
  | dcomp2 (own own2 : List Nat) (t : Tg) (it : It) (cs : Es) (t2 : Tg) (it2 : It) (cs2 : Es) (k v : E)
  | dict (e : E)
inductive It where
  | seq (e : E) | range1 (a : E) | range2 (a b : E) | range3 (a b c : E) | enum (e : E) | zip (a b : E) | items (e : E)
inductive Tg where
  | name (i : Nat) | tup (ts : Tgs) | fld (o : E) (f : Nat) | sub (o i : E)
inductive Tgs where
  | nil | cons (t : Tg) (ts : Tgs)
inductive KVs where
  | nil | cons (k v : E) (r : KVs)
end

mutual
inductive S where
  | asg (t : Tg) (e : E)
  | par (is : List Nat) (es : Es)
  | expr (e : E)
  | ite (c : E) (a b : Ss)
  | for_ (t : Tg) (it : It) (body : Ss)
  | while_ (c : E) (body : Ss)
  | ret (e : E)
  | del (o i : E)
  | pass | brk | cnt | never
inductive Ss where
  | nil | cons (s : S) (ss : Ss)
end

inductive Kind where
  | pure | imp | initF (c n : Nat) | initM (c n : Nat)
  deriving DecidableEq

structure Fn where
  slots : Nat
  kind : Kind
  body : Ss

structure Cls where
  /-- the names of the attributes -/
  flds : List Nat
  /-- methods, properties: the name, the function -/
  meths : List (Nat × Nat)
  props : List (Nat × Nat)

structure Prog where
  fns : List Fn
  cls : List Cls

structure Ctx where
  P : Prog
  B : List Layer
  W : Nat
  call : Bool → Nat → List MV → List Layer → Layer → Res MV

def Ctx.lev (C : Ctx) : Nat := C.B.length
def getB (B : List Layer) (T : Layer) (l k : Nat) : Option Cell := if l = B.length then T[k]? else match B[l]? with
  | some t => t[k]?
  | none => none
def Ctx.get (C : Ctx) (T : Layer) (l k : Nat) : Option Cell := getB C.B T l k

/-! ### looking into values -/
def seqOf (C : Ctx) (T : Layer) : MV → Option (List MV)
  | .tup xs => some xs
  | .lst xs => some xs
  | .ref l k => match C.get T l k with
    | some (.lst xs) => some xs
    | _ => none
  | _ => none
def lstOf (C : Ctx) (T : Layer) : MV → Option (List MV)
  | .lst xs => some xs
  | .ref l k => match C.get T l k with
    | some (.lst xs) => some xs
    | _ => none
  | _ => none
def dctOf (C : Ctx) (T : Layer) : MV → Option (List MV × List MV)
  | .dct ks vs => some (ks, vs)
  | .ref l k => match C.get T l k with
    | some (.dct ks vs) => some (ks, vs)
    | some (.hold ks vs) => some (ks, vs)
    | _ => none
  | _ => none
def insOf (C : Ctx) (T : Layer) : MV → Option (Nat × List MV)
  | .ins c fs => some (c, fs)
  | .ref l k => match C.get T l k with
    | some (.ins c fs) => some (c, fs)
    | _ => none
  | _ => none

/-- references resolved, for == and repr -/
def resolve (C : Ctx) (T : Layer) : Nat → MV → MV
  | 0, _ => .undef
  | n + 1, .ref l k => match C.get T l k with
    | some (.lst xs) => .lst (xs.map (resolve C T n))
    | some (.dct ks vs) => .dct (ks.map (resolve C T n)) (vs.map (resolve C T n))
    | _ => .undef
  | n + 1, .tup xs => .tup (xs.map (resolve C T n))
  | n + 1, .lst xs => .lst (xs.map (resolve C T n))
  | n + 1, .dct ks vs => .dct (ks.map (resolve C T n)) (vs.map (resolve C T n))
  | _ + 1, v => v

/-! ### order, sorting -/
mutual
def mlt : MV → MV → Bool
  | .int i, .int j => decide (i < j)
  | .bl a, .bl b => !a && b
  | .str x, .str y => decide (x < y)
  | .tup xs, .tup ys => mlts xs ys
  | .lst xs, .lst ys => mlts xs ys
  | _, _ => false
def mlts : List MV → List MV → Bool
  | [], [] => false
  | [], _ :: _ => true
  | _ :: _, [] => false
  | x :: xs, y :: ys => if eqv x y then mlts xs ys else mlt x y
end
mutual
def alike : MV → MV → Bool
  | .non, .non => true
  | .bl _, .bl _ => true
  | .int _, .int _ => true
  | .str _, .str _ => true
  | .tup xs, .tup ys => alikes xs ys
  | .lst xs, .lst ys => alikes xs ys
  | _, _ => false
def alikes : List MV → List MV → Bool
  | x :: xs, y :: ys => alike x y && alikes xs ys
  | [], _ => true
  | _ :: _, [] => true
end
def insS (x : MV) : List MV → List MV
  | [] => [x]
  | y :: ys => if mlt y x then y :: insS x ys else if mlt x y then x :: y :: ys else x :: y :: ys
/-- stable insertion, from the right -/
def isort : List MV → List MV
  | [] => []
  | x :: xs => insS x (isort xs)
/-- tuples with an item at least, or no tuple and no None -/
def srtOk (xs : List MV) : Bool := (xs.all fun x => match x with
  | .tup (_ :: _) => true
  | _ => false) || xs.all fun x => match x with
  | .tup _ => false
  | .non => false
  | _ => true
def allAlike (xs : List MV) : Bool := xs.all fun x => xs.all fun y => alike x y

/-! ### small helpers -/
def big : Nat := 1000000
def atIx {α : Type} (xs : List α) (i : Int) : Option α := if 0 ≤ i then xs[i.toNat]? else if 0 ≤ i + xs.length then xs[(i + xs.length).toNat]? else none
def ixOf (n : Nat) (i : Int) : Option Nat := if 0 ≤ i then (if i < n then some i.toNat else none) else if 0 ≤ i + n then some (i + n).toNat else none
/-- a slice's bound within 0 .. n -/
def clip (n : Nat) (i : Int) : Nat := if 0 ≤ i then min i.toNat n else (i + n).toNat
def slice {α : Type} (xs : List α) (lo hi : Option Int) : List α :=
  let a := match lo with | none => 0 | some i => clip xs.length i
  let b := match hi with | none => xs.length | some i => clip xs.length i
  (xs.take b).drop a
def truthy (C : Ctx) (T : Layer) : MV → Option Bool
  | .non => some false
  | .bl b => some b
  | .int i => some (i != 0)
  | .str s => if s.length ≤ big then some (!s.isEmpty) else none
  | .tup xs => some (!xs.isEmpty)
  | .lst xs => some (!xs.isEmpty)
  | .ref l k => match C.get T l k with
    | some (.lst xs) => some (!xs.isEmpty)
    | _ => none
  | _ => none
def p64 : Nat := 18446744073709551616
def mulOk (i j : Int) : Bool := decide (i.natAbs < p64) || decide (j.natAbs < p64) || decide (i.natAbs.log2 + j.natAbs.log2 < 100000000)
def powOk (i j : Int) : Bool := decide (0 ≤ j) && decide (j ≤ 100) && (decide (i.natAbs < p64) || decide (((i.natAbs.log2 : Int) + 1) * j ≤ 134217728))
def intsM : List MV → Option (List Int)
  | [] => some []
  | .int i :: r => (intsM r).map (i :: ·)
  | _ => none
def strsM : List MV → Option (List (List Nat))
  | [] => some []
  | .str i :: r => (strsM r).map (i :: ·)
  | _ => none
def isTup : MV → Bool
  | .tup _ => true
  | _ => false
def isStr : MV → Bool
  | .str _ => true
  | _ => false
/-- keys that may be walked -/
def keysIt (ks : List MV) : Bool := ks.all isTup || ks.all isStr
/-- what may be a key -/
def hsh : Nat → MV → Bool
  | _, .non => true
  | _, .bl _ => true
  | _, .int _ => true
  | _, .str _ => true
  | n + 1, .tup xs => xs.all (hsh n)
  | _, _ => false
/-- a key, and the keys of a dict: all tuples, or none of them one -/
def keysOk (x : MV) (ks : List MV) : Bool := hsh 8 x && (if isTup x then ks.all isTup else ks.all fun k => !isTup k)
def lookK (x : MV) : List MV → List MV → Option MV
  | k :: ks, v :: vs => if eqv k x then some v else lookK x ks vs
  | _, _ => none
def putKs (x : MV) : List MV → List MV
  | [] => [x]
  | k :: ks => if eqv k x then k :: ks else k :: putKs x ks
def putVs (x y : MV) : List MV → List MV → List MV
  | k :: ks, v :: vs => if eqv k x then y :: vs else v :: putVs x y ks vs
  | _, _ => [y]
def delKs (x : MV) : List MV → List MV
  | [] => []
  | k :: ks => if eqv k x then ks else k :: delKs x ks
def delVs (x : MV) : List MV → List MV → List MV
  | k :: ks, v :: vs => if eqv k x then vs else v :: delVs x ks vs
  | _, _ => []
def digitsF : Nat → Nat → List Nat → List Nat
  | 0, _, acc => acc
  | f + 1, n, acc => if n < 10 then (48 + n) :: acc else digitsF f (n / 10) ((48 + n % 10) :: acc)
def natStr (n : Nat) : List Nat := digitsF 60 n []
def intStr (i : Int) : List Nat := if i < 0 then 45 :: natStr i.natAbs else natStr i.natAbs
def isPre : List Nat → List Nat → Bool
  | [], _ => true
  | _ :: _, [] => false
  | a :: r, b :: t => a == b && isPre r t
/-- text.split(sep), sep one sign or more: f bounds the steps -/
def splitF (sep : List Nat) : Nat → List Nat → List Nat → List (List Nat)
  | 0, _, cur => [cur.reverse]
  | _ + 1, [], cur => [cur.reverse]
  | f + 1, c :: r, cur => if isPre sep (c :: r) then cur.reverse :: splitF sep f ((c :: r).drop sep.length) [] else splitF sep f r (c :: cur)
def joinS (sep : List Nat) : List (List Nat) → List Nat
  | [] => []
  | [x] => x
  | x :: y :: r => x ++ sep ++ joinS sep (y :: r)
def inS (x : List Nat) : List Nat → Bool
  | [] => x.isEmpty
  | c :: r => isPre x (c :: r) || inS x r
def digVal : List Nat → Nat → Option Nat
  | [], n => some n
  | c :: r, n => if 48 ≤ c ∧ c ≤ 57 then digVal r (n * 10 + (c - 48)) else none
def setC (C : Ctx) (T : Layer) (l k : Nat) (c : Cell) : Option Layer := if l = C.B.length then (if k < T.length then some (T.set k c) else none) else none
def depth0 : Nat := 30

/-- a value that leaves a pure call: the call's own cells become trees -/
def freezeF (ex : Option Nat) (ℓ : Nat) (T : Layer) : Nat → MV → Option MV
  | 0, _ => none
  | n + 1, .ref l k => if l = ℓ then if ex = some k then none else match T[k]? with
      | some (.lst xs) => (xs.mapM (freezeF ex ℓ T n)).map .lst
      | some (.dct ks vs) => match ks.mapM (freezeF ex ℓ T n), vs.mapM (freezeF ex ℓ T n) with
        | some ks', some vs' => some (.dct ks' vs')
        | _, _ => none
      | some (.ins c fs) => (fs.mapM (freezeF ex ℓ T n)).map (.ins c)
      | _ => none
    else if l < ℓ then some (.ref l k) else none
  | n + 1, .tup xs => (xs.mapM (freezeF ex ℓ T n)).map .tup
  | n + 1, .lst xs => (xs.mapM (freezeF ex ℓ T n)).map .lst
  | n + 1, .dct ks vs => match ks.mapM (freezeF ex ℓ T n), vs.mapM (freezeF ex ℓ T n) with
    | some ks', some vs' => some (.dct ks' vs')
    | _, _ => none
  | n + 1, .ins c fs => (fs.mapM (freezeF ex ℓ T n)).map (.ins c)
  | _ + 1, v => some v
def freeze (ℓ : Nat) (T : Layer) (v : MV) : Option MV := freezeF none ℓ T depth0 v

end Mini
end
section
set_option autoImplicit false
namespace Mini

/-- what a making expression makes -/
inductive LD where
  | lst (xs : List MV) | dct (ks vs : List MV)
def LD.mv : LD → MV
  | .lst xs => .lst xs
  | .dct ks vs => .dct ks vs
def LD.cell : LD → Cell
  | .lst xs => .lst xs
  | .dct ks vs => .dct ks vs
/-- what a loop walks: the items; the cell that must stay as it is -/
structure Itd where
  items : List MV
  src : List (Nat × Nat × Cell)
  lock : Option Nat := none

def optR {α : Type} (o : Option α) (T : Layer) : Res α := match o with
  | some a => .ok a T
  | none => .stuck

/-- a list that is read: its items, and its cell, if it is one -/
def srcOf (C : Ctx) (T : Layer) (v : MV) : List (Nat × Nat × Cell) := match v with
  | .ref l k => match C.get T l k with
    | some c => [(l, k, c)]
    | none => []
  | _ => []

mutual
def MV.beq : MV → MV → Bool
  | .undef, .undef => true
  | .non, .non => true
  | .bl a, .bl b => a == b
  | .int i, .int j => i == j
  | .str x, .str y => x == y
  | .tup xs, .tup ys => beqs xs ys
  | .lst xs, .lst ys => beqs xs ys
  | .dct ks vs, .dct ks' vs' => beqs ks ks' && beqs vs vs'
  | .ins c fs, .ins d gs => c == d && beqs fs gs
  | .ref l k, .ref l' k' => l == l' && k == k'
  | _, _ => false
def beqs : List MV → List MV → Bool
  | [], [] => true
  | x :: xs, y :: ys => x.beq y && beqs xs ys
  | _, _ => false
end
def Cell.beq : Cell → Cell → Bool
  | .lst xs, .lst ys => beqs xs ys
  | .dct ks vs, .dct ks' vs' => beqs ks ks' && beqs vs vs'
  | .ins c fs, .ins d gs => c == d && beqs fs gs
  | .hold ks vs, .hold ks' vs' => beqs ks ks' && beqs vs vs'
  | _, _ => false
def lockOf (C : Ctx) (T : Layer) : MV → Option Nat
  | .ref l k => if l = C.B.length then (match T[k]? with
    | some (.dct _ _) => some k
    | _ => none) else none
  | _ => none
def holdC (T : Layer) (k : Nat) : Layer := match T[k]? with
  | some (.dct ks vs) => T.set k (.hold ks vs)
  | _ => T
def freeC (T : Layer) (k : Nat) : Layer := match T[k]? with
  | some (.hold ks vs) => T.set k (.dct ks vs)
  | _ => T
def lockR {α : Type} (lk : Option Nat) (f : Layer → Res α) (T : Layer) : Res α := match lk with
  | none => f T
  | some k => match f (holdC T k) with
    | .ok a T' => .ok a (freeC T' k)
    | _ => .stuck
def calm {α : Type} : Res α → Res α
  | .exc _ _ _ => .stuck
  | r => r
def still (C : Ctx) (T : Layer) : List (Nat × Nat × Cell) → Bool
  | [] => true
  | (l, k, c) :: r => (match C.get T l k with
    | some c' => c'.beq c
    | none => false) && still C T r

/-! ### operations on values -/
def bin (_C : Ctx) (_T : Layer) (op : Op2) (a b : MV) : Option MV := match op, a, b with
  | .add, .int i, .int j => some (.int (i + j))
  | .sub, .int i, .int j => some (.int (i - j))
  | .mul, .int i, .int j => if mulOk i j then some (.int (i * j)) else none
  | .fdiv, .int i, .int j => if 0 < j ∧ j < 1073741824 then some (.int (i / j)) else none
  | .mod, .int i, .int j => if 0 < j then some (.int (i % j)) else none
  | .pow, .int i, .int j => if powOk i j then some (.int (i ^ j.toNat)) else none
  | .add, .str x, .str y => if x.length + y.length ≤ big then some (.str (x ++ y)) else none
  | .add, .tup x, .tup y => if x.length + y.length ≤ big then some (.tup (x ++ y)) else none
  | _, _, _ => none
def eqM (C : Ctx) (T : Layer) (a b : MV) : Option Bool :=
  if a.data && b.data then some (eqv a b) else
    let a' := resolve C T depth0 a
    let b' := resolve C T depth0 b
    if a'.data && b'.data then some (eqv a' b') else none
def inM (C : Ctx) (T : Layer) (a b : MV) : Option Bool := match seqOf C T b with
  | some xs => if a.data && (MV.lst xs).data then some (xs.any fun y => eqv y a) else none
  | none => match dctOf C T b with
    | some (ks, vs) => if keysOk a ks then some (lookK a ks vs).isSome else none
    | none => none
def cmpM (C : Ctx) (T : Layer) (op : CmpO) (a b : MV) : Option Bool := match op with
  | .eq => eqM C T a b
  | .ne => (eqM C T a b).map (!·)
  | .lt => match a, b with | .int i, .int j => some (decide (i < j)) | _, _ => none
  | .le => match a, b with | .int i, .int j => some (decide (i ≤ j)) | _, _ => none
  | .gt => match a, b with | .int i, .int j => some (decide (j < i)) | _, _ => none
  | .ge => match a, b with | .int i, .int j => some (decide (j ≤ i)) | _, _ => none
  | .is_ => match b with
    | .non => (match a with | .undef => none | .non => some true | _ => some false)
    | .bl y => (match a with | .bl x => some (x == y) | .undef => none | _ => some false)
    | _ => none
  | .isn => match b with
    | .non => (match a with | .undef => none | .non => some false | _ => some true)
    | .bl y => (match a with | .bl x => some (!(x == y)) | .undef => none | _ => some true)
    | _ => none
  | .in_ => inM C T a b
  | .nin => (inM C T a b).map (!·)
def idxM (C : Ctx) (T : Layer) (a i : MV) : Option MV := match seqOf C T a, i with
  | some xs, .int i => atIx xs i
  | some _, _ => none
  | none, i => match a, i with
    | .str s, .int i => if s.length ≤ big then (atIx s i).map fun c => .str [c] else none
    | a, i => match dctOf C T a with
      | some (ks, vs) => if keysOk i ks then lookK i ks vs else none
      | none => none
def isTy (a : MV) (C : Ctx) (T : Layer) : BTy → Bool := fun t => match a with
  | .int _ => t == .int
  | .bl _ => t == .int || t == .bool
  | .str _ => t == .str
  | .tup _ => t == .tuple
  | .lst _ => t == .list
  | .dct _ _ => t == .dict
  | .ref l k => match C.get T l k with
    | some (.lst _) => t == .list
    | some (.dct _ _) => t == .dict
    | some (.hold _ _) => t == .dict
    | _ => false
  | _ => false
def isiM (C : Ctx) (T : Layer) (a : MV) (ts : List BTy) (cs : List Nat) : Option Bool := match a with
  | .undef => none
  | a => some (ts.any (isTy a C T) || match insOf C T a with
    | some (c, _) => cs.contains c
    | none => false)
def optI : Option MV → Option (Option Int)
  | none => some none
  | some (.int i) => some (some i)
  | _ => none
def sliM (_C : Ctx) (_T : Layer) (a : MV) (lo hi : Option Int) : Option MV := match a with
  | .str s => some (.str (slice s lo hi))
  | .tup xs => some (.tup (slice xs lo hi))
  | _ => none
def fstrM : List MV → Option (List Nat)
  | [] => some []
  | .str s :: r => (fstrM r).map (s ++ ·)
  | .int i :: r => if i.natAbs < p64 then (fstrM r).map (intStr i ++ ·) else none
  | _ => none
def minL : Int → List Int → Int
  | m, [] => m
  | m, x :: r => minL (if x < m then x else m) r
def maxL : Int → List Int → Int
  | m, [] => m
  | m, x :: r => maxL (if m < x then x else m) r
def bltM (C : Ctx) (T : Layer) (b : Blt) (vs : List MV) : Option MV := match b, vs with
  | .len, [v] => match v with
    | .str s => if s.length ≤ big then some (.int s.length) else none
    | v => match seqOf C T v with
      | some xs => some (.int xs.length)
      | none => none
  | .sum, [v] => match seqOf C T v with
    | some xs => (intsM xs).map fun is => .int is.sum
    | none => none
  | .min1, [v] => match lstOf C T v with
    | some xs => match intsM xs with
      | some (i :: r) => some (.int (minL i r))
      | _ => none
    | none => none
  | .minN, [v] => match lstOf C T v with
    | some xs => match intsM xs with
      | some (i :: r) => some (.int (minL i r))
      | some [] => some .non
      | none => none
    | none => none
  | .min2, [.int i, .int j] => some (.int (if j < i then j else i))
  | .max2, [.int i, .int j] => some (.int (if j > i then j else i))
  | .int1, [v] => match v with
    | .int i => some (.int i)
    | .bl b => some (.int (b2i b))
    | _ => none
  | .str1, [.int i] => if i.natAbs < p64 then some (.str (intStr i)) else none
  | .tuple1, [v] => (seqOf C T v).map .tup
  | _, _ => none
/-- a built-in type's method: its answer, the store behind it -/
def bmM (C : Ctx) (T : Layer) (o : MV) (m : BM) (vs : List MV) : Option (MV × Layer) := match o, m, vs with
  | .ref l k, .append, [v] => match C.get T l k with
    | some (.lst xs) => if xs.length < big then (setC C T l k (.lst (xs ++ [v]))).map fun T' => (.non, T') else none
    | _ => none
  | .ref l k, .extend, [v] => match C.get T l k, lstOf C T v with
    | some (.lst xs), some ys => if xs.length + ys.length ≤ big then (setC C T l k (.lst (xs ++ ys))).map fun T' => (.non, T') else none
    | _, _ => none
  | .ref l k, .pop0, [] => match C.get T l k with
    | some (.lst xs) => match xs.getLast? with
      | some y => (setC C T l k (.lst xs.dropLast)).map fun T' => (y, T')
      | none => none
    | _ => none
  | .ref l k, .pop1, [.int i] => match C.get T l k with
    | some (.lst xs) => match ixOf xs.length i, atIx xs i with
      | some j, some y => (setC C T l k (.lst (xs.eraseIdx j))).map fun T' => (y, T')
      | _, _ => none
    | _ => none
  | .ref l k, .clear, [] => match C.get T l k with
    | some (.lst _) => (setC C T l k (.lst [])).map fun T' => (.non, T')
    | _ => none
  | .str s, .join, [v] => match seqOf C T v with
    | some xs => match strsM xs with
      | some ys => if (joinS s ys).length ≤ big then some (.str (joinS s ys), T) else none
      | none => none
    | none => none
  | .str s, .startswith, [.str p] => some (.bl (isPre p s), T)
  | .str s, .split, [.str p] => if p.isEmpty ∨ big < s.length then none else some (.lst ((splitF p (s.length + 1) s []).map .str), T)
  | _, _, _ => none
def bmOk (C : Ctx) (T : Layer) (x : MV) : BM → Bool
  | .join => (match x with | .str _ => true | _ => false)
  | .startswith => (match x with | .str _ => true | _ => false)
  | .split => (match x with | .str _ => true | _ => false)
  | _ => (lstOf C T x).isSome
def putIx (C : Ctx) (T : Layer) (o i v : MV) : Option Layer := match o with
  | .ref l k => match C.get T l k with
    | some (.lst xs) => match i with
      | .int i => match ixOf xs.length i with
        | some j => setC C T l k (.lst (xs.set j v))
        | none => none
      | _ => none
    | some (.dct ks vs) => if keysOk i ks ∧ ks.length < big then setC C T l k (.dct (putKs i ks) (putVs i v ks vs)) else none
    | _ => none
  | _ => none
def delIx (C : Ctx) (T : Layer) (o i : MV) : Option Layer := match o with
  | .ref l k => match C.get T l k with
    | some (.dct ks vs) => if keysOk i ks ∧ isTup i ∧ (lookK i ks vs).isSome then setC C T l k (.dct (delKs i ks) (delVs i ks vs)) else none
    | _ => none
  | _ => none
def putFld (C : Ctx) (T : Layer) (o : MV) (f : Nat) (v : MV) : Option Layer := match o with
  | .ref l k => match C.get T l k with
    | some (.ins c fs) => match C.P.cls[c]? with
      | some cd => match cd.flds.idxOf? f with
        | some j => match v with
          | .undef => none
          | v => setC C T l k (.ins c (fs.set j v))
        | none => none
      | none => none
    | _ => none
  | _ => none
def params (am : List AM) (vs : List MV) : List MV := am.map fun
  | .a i => vs.getD i .undef
  | .d v => v
def wipe (δ : List MV) : List Nat → List MV
  | [] => δ
  | i :: r => (wipe δ r).set i .undef

/-! ### loops -/
/-- a comprehension's loop: the turn gives what is taken -/
def compF {β : Type} (C : Ctx) (src : List (Nat × Nat × Cell)) (turn : MV → Layer → Res (List β)) : List MV → Layer → Res (List β)
  | [], T => if still C T src then .ok [] T else .stuck
  | x :: r, T => if still C T src then (turn x T).bind fun ys T1 => (compF C src turn r T1).bind fun zs T2 => .ok (ys ++ zs) T2 else .stuck
inductive Fl where
  | next | ret (v : MV) | brk | cnt
def forF (C : Ctx) (src : List (Nat × Nat × Cell)) (turn : MV → List MV → Layer → Res (Fl × List MV)) : List MV → List MV → Layer → Res (Fl × List MV)
  | [], δ, T => if still C T src then .ok (.next, δ) T else .stuck
  | x :: r, δ, T => if still C T src then (turn x δ T).bind fun p T1 => match p.1 with
      | .next => forF C src turn r p.2 T1
      | .cnt => forF C src turn r p.2 T1
      | .brk => .ok (.next, p.2) T1
      | .ret v => .ok (.ret v, p.2) T1
    else .stuck
def whileF (test : List MV → Layer → Res Bool) (turn : List MV → Layer → Res (Fl × List MV)) : Nat → List MV → Layer → Res (Fl × List MV)
  | 0, _, _ => .stuck
  | n + 1, δ, T => (test δ T).bind fun b T1 => if b then (turn δ T1).bind fun p T2 => match p.1 with
      | .next => whileF test turn n p.2 T2
      | .cnt => whileF test turn n p.2 T2
      | .brk => .ok (.next, p.2) T2
      | .ret v => .ok (.ret v, p.2) T2
    else .ok (.next, δ) T1
def rangeL (lo : Int) (n : Nat) : List MV := (List.range n).map fun (i : Nat) => .int (lo + (i : Int))
def rangeS (lo st : Int) (n : Nat) : List MV := (List.range n).map fun (i : Nat) => .int (lo + (i : Int) * st)
def rangeN (lo hi st : Int) : Nat := (if st > 0 then (if lo < hi then (hi - lo - 1) / st + 1 else 0) else (if lo > hi then (lo - hi - 1) / (-st) + 1 else 0)).toNat
def enumL : Nat → List MV → List MV
  | _, [] => []
  | n, x :: r => .tup [.int n, x] :: enumL (n + 1) r
def zipL : List MV → List MV → List MV
  | x :: r, y :: t => .tup [x, y] :: zipL r t
  | _, _ => []
def test1 (b : Option Bool) (T : Layer) : Res Bool := optR b T
/-- a pile of keys and values as the dict that they make, one after the other -/
def mkD : List (MV × MV) → List MV → List MV → Option (List MV × List MV)
  | [], ks, vs => some (ks, vs)
  | (k, v) :: r, ks, vs => if keysOk k ks then mkD r (putKs k ks) (putVs k v ks vs) else none
def pairsOf : List MV → Option (List (MV × MV))
  | [] => some []
  | .tup [k, v] :: r => (pairsOf r).map ((k, v) :: ·)
  | _ => none

def Tgs.len : Tgs → Nat
  | .nil => 0
  | .cons _ ts => ts.len + 1
mutual
/-- the names that a target sets -/
def Tg.own : Tg → List Nat
  | .name i => [i]
  | .tup ts => ts.own
  | _ => []
def Tgs.own : Tgs → List Nat
  | .nil => []
  | .cons t ts => t.own ++ ts.own
end
mutual
def ev (C : Ctx) : E → List MV → Layer → Res MV
  | .const v, _, T => .ok v T
  | .var i, δ, T => match δ[i]? with
    | some .undef => .stuck
    | some v => .ok v T
    | none => .stuck
  | .tup es, δ, T => (evs C es δ T).bind fun vs T1 => if vs.length ≤ big then .ok (.tup vs) T1 else .stuck
  | .fz l, δ, T => (evL C l δ T).bind fun d T1 => .ok d.mv T1
  | .cell l, δ, T => (evL C l δ T).bind fun d T1 => .ok (.ref C.B.length T1.length) (T1 ++ [d.cell])
  | .bin op a b, δ, T => (ev C a δ T).bind fun x T1 => (ev C b δ T1).bind fun y T2 => optR (bin C T2 op x y) T2
  | .neg a, δ, T => (ev C a δ T).bind fun x T1 => match x with
    | .int i => .ok (.int (-i)) T1
    | _ => .stuck
  | .not a, δ, T => (ev C a δ T).bind fun x T1 => (optR (truthy C T1 x) T1).bind fun b T2 => .ok (.bl (!b)) T2
  | .and a b, δ, T => (ev C a δ T).bind fun x T1 => (optR (truthy C T1 x) T1).bind fun c T2 => if c then ev C b δ T2 else .ok x T2
  | .or a b, δ, T => (ev C a δ T).bind fun x T1 => (optR (truthy C T1 x) T1).bind fun c T2 => if c then .ok x T2 else ev C b δ T2
  | .cmp op a b, δ, T => (ev C a δ T).bind fun x T1 => (ev C b δ T1).bind fun y T2 => (optR (cmpM C T2 op x y) T2).bind fun r T3 => .ok (.bl r) T3
  | .chain op op' a b c, δ, T => (ev C a δ T).bind fun x T1 => (ev C b δ T1).bind fun y T2 => (optR (cmpM C T2 op x y) T2).bind fun r T3 =>
      if r then (ev C c δ T3).bind fun z T4 => (optR (cmpM C T4 op' y z) T4).bind fun r' T5 => .ok (.bl r') T5 else .ok (.bl false) T3
  | .ite c a b, δ, T => (ev C c δ T).bind fun x T1 => (optR (truthy C T1 x) T1).bind fun t T2 => if t then ev C a δ T2 else ev C b δ T2
  | .fld kp a f, δ, T => (ev C a δ T).bind fun x T1 => match insOf C T1 x with
    | some (c, fs) => match C.P.cls[c]? with
      | some cd => match cd.props.lookup f with
        | some g => C.call kp g [x] C.B T1
        | none => match cd.flds.idxOf? f with
          | some j => match fs[j]? with
            | some .undef => .stuck
            | some v => .ok v T1
            | none => .stuck
          | none => .stuck
      | none => .stuck
    | none => .stuck
  | .idx a i, δ, T => (ev C a δ T).bind fun x T1 => (ev C i δ T1).bind fun y T2 => optR (idxM C T2 x y) T2
  | .sli a lo hi, δ, T => (ev C a δ T).bind fun x T1 => (evO C lo δ T1).bind fun p T2 => (evO C hi δ T2).bind fun q T3 => optR (sliM C T3 x p q) T3
  | .call k f am es, δ, T => (evs C es δ T).bind fun vs T1 => C.call k f (params am vs) C.B T1
  | .meth k o m am es, δ, T => (ev C o δ T).bind fun x T1 => match insOf C T1 x with
    | some (c, _) => match C.P.cls[c]? with
      | some cd => match cd.meths.lookup m with
        | some g => (evs C es δ T1).bind fun vs T2 => C.call k g (x :: params am vs) C.B T2
        | none => .stuck
      | none => .stuck
    | none => .stuck
  | .own m es, δ, T => (evs C es δ T).bind fun vs T1 => match vs with
    | [] => .stuck
    | x :: _ => match insOf C T1 x with
      | some (c, _) => match C.P.cls[c]? with
        | some cd => match cd.meths.lookup m with
          | some g => (C.call false g vs C.B T1).bind fun v T2 => if vs.length = 1 then match v with
              | .int i => if 0 ≤ i ∧ i < 1000000000 then .ok v T2 else .stuck
              | _ => .stuck
            else .ok v T2
          | none => .stuck
        | none => .stuck
      | none => .stuck
  | .blt b es, δ, T => (evs C es δ T).bind fun vs T1 => optR (bltM C T1 b vs) T1
  | .bm o m es, δ, T => (ev C o δ T).bind fun x T1 => if bmOk C T1 x m then (evs C es δ T1).bind fun vs T2 => match bmM C T2 x m vs with
    | some (v, T3) => .ok v T3
    | none => .stuck else .stuck
  | .isi a ts cs, δ, T => (ev C a δ T).bind fun x T1 => (optR (isiM C T1 x ts cs) T1).bind fun b T2 => .ok (.bl b) T2
  | .fstr es, δ, T => (evs C es δ T).bind fun vs T1 => (optR (fstrM vs) T1).bind fun s T2 => if s.length ≤ big then .ok (.str s) T2 else .stuck
def evO (C : Ctx) : Oe → List MV → Layer → Res (Option Int)
  | .none, _, T => .ok none T
  | .some e, δ, T => (ev C e δ T).bind fun x T1 => match x with
    | .int i => .ok (some i) T1
    | .non => .ok none T1
    | _ => .stuck
def evs (C : Ctx) : Es → List MV → Layer → Res (List MV)
  | .nil, _, T => .ok [] T
  | .cons e es, δ, T => (ev C e δ T).bind fun x T1 => (evs C es δ T1).bind fun xs T2 => .ok (x :: xs) T2
def evTests (C : Ctx) : Es → List MV → Layer → Res Bool
  | .nil, _, T => .ok true T
  | .cons e es, δ, T => (ev C e δ T).bind fun x T1 => (optR (truthy C T1 x) T1).bind fun b T2 => if b then evTests C es δ T2 else .ok false T2
def evL (C : Ctx) : L → List MV → Layer → Res LD
  | .disp es, δ, T => (evs C es δ T).bind fun vs T1 => if vs.length ≤ big then .ok (.lst vs) T1 else .stuck
  | .cat a b, δ, T => (ev C a δ T).bind fun x T1 => (ev C b δ T1).bind fun y T2 => match lstOf C T2 x, lstOf C T2 y with
    | some xs, some ys => if xs.length + ys.length ≤ big then .ok (.lst (xs ++ ys)) T2 else .stuck
    | _, _ => .stuck
  | .rep a b, δ, T => (ev C a δ T).bind fun x T1 => (ev C b δ T1).bind fun y T2 => match lstOf C T2 x, y with
    | some xs, .int j => if xs.length * j.toNat ≤ big ∧ j < 1000000 ∧ -1000000 < j then .ok (.lst (List.flatten (List.replicate j.toNat xs))) T2 else .stuck
    | _, _ => .stuck
  | .list e, δ, T => (ev C e δ T).bind fun x T1 => match seqOf C T1 x with
    | some xs => .ok (.lst xs) T1
    | none => match dctOf C T1 x with
      | some (ks, _) => if keysIt ks then .ok (.lst ks) T1 else .stuck
      | none => .stuck
  | .sorted e, δ, T => (ev C e δ T).bind fun x T1 => match seqOf C T1 x with
    | some xs => if xs.length ≤ big ∧ (MV.lst xs).data ∧ allAlike xs ∧ srtOk xs then .ok (.lst (isort xs)) T1 else .stuck
    | none => .stuck
  | .sli a lo hi, δ, T => (ev C a δ T).bind fun x T1 => (evO C lo δ T1).bind fun p T2 => (evO C hi δ T2).bind fun q T3 => match lstOf C T3 x with
    | some xs => .ok (.lst (slice xs p q)) T3
    | none => .stuck
  | .comp own t it cs e, δ, T => (evIt C it δ T).bind fun d T1 =>
      (calm (lockR d.lock (compF C d.src (fun x T => calm ((asg C t x (wipe δ own) T).bind fun δ1 T1 => (evTests C cs δ1 T1).bind fun b T2 => if b then (ev C e δ1 T2).bind fun y T3 => .ok [y] T3 else .ok [] T2)) d.items) T1)).bind fun ys T2 =>
      if ys.length < big then .ok (.lst ys) T2 else .stuck
  | .comp2 own own2 t it cs t2 it2 cs2 e, δ, T => (evIt C it δ T).bind fun d T1 =>
      (calm (lockR d.lock (compF C d.src (fun x T => calm ((asg C t x (wipe δ own) T).bind fun δ1 T1 => (evTests C cs δ1 T1).bind fun b T2 =>
        if b then (evIt C it2 δ1 T2).bind fun d2 T3 => lockR d2.lock (compF C d2.src (fun x T => calm ((asg C t2 x (wipe δ1 own2) T).bind fun δ2 T1 => (evTests C cs2 δ2 T1).bind fun b T2 =>
          if b then (ev C e δ2 T2).bind fun y T3 => .ok [y] T3 else .ok [] T2)) d2.items) T3
        else .ok [] T2)) d.items) T1)).bind fun ys T2 =>
      if ys.length < big then .ok (.lst ys) T2 else .stuck
  | .ddisp ps, δ, T => (evKV C ps δ T).bind fun ps T1 => match mkD ps [] [] with
    | some (ks, vs) => .ok (.dct ks vs) T1
    | none => .stuck
  | .dcomp own t it cs k v, δ, T => (evIt C it δ T).bind fun d T1 =>
      (calm (lockR d.lock (compF C d.src (fun x T => calm ((asg C t x (wipe δ own) T).bind fun δ1 T1 => (evTests C cs δ1 T1).bind fun b T2 => if b then (ev C k δ1 T2).bind fun y T3 => (ev C v δ1 T3).bind fun z T4 => .ok [(y, z)] T4 else .ok [] T2)) d.items) T1)).bind fun ps T2 =>
      match mkD ps [] [] with
      | some (ks, vs) => if ks.length < big then .ok (.dct ks vs) T2 else .stuck
      | none => .stuck
  | .dcomp2 own own2 t it cs t2 it2 cs2 k v, δ, T => (evIt C it δ T).bind fun d T1 =>
      (calm (lockR d.lock (compF C d.src (fun x T => calm ((asg C t x (wipe δ own) T).bind fun δ1 T1 => (evTests C cs δ1 T1).bind fun b T2 =>
        if b then (evIt C it2 δ1 T2).bind fun d2 T3 => lockR d2.lock (compF C d2.src (fun x T => calm ((asg C t2 x (wipe δ1 own2) T).bind fun δ2 T1 => (evTests C cs2 δ2 T1).bind fun b T2 =>
          if b then (ev C k δ2 T2).bind fun y T3 => (ev C v δ2 T3).bind fun z T4 => .ok [(y, z)] T4 else .ok [] T2)) d2.items) T3
        else .ok [] T2)) d.items) T1)).bind fun ps T2 =>
      match mkD ps [] [] with
      | some (ks, vs) => if ks.length < big then .ok (.dct ks vs) T2 else .stuck
      | none => .stuck
  | .dict e, δ, T => (ev C e δ T).bind fun x T1 => match dctOf C T1 x with
    | some (ks, vs) => .ok (.dct ks vs) T1
    | none => match lstOf C T1 x with
      | some xs => match pairsOf xs with
        | some ps => match mkD ps [] [] with
          | some (ks, vs) => .ok (.dct ks vs) T1
          | none => .stuck
        | none => .stuck
      | none => .stuck
def evKV (C : Ctx) : KVs → List MV → Layer → Res (List (MV × MV))
  | .nil, _, T => .ok [] T
  | .cons k v r, δ, T => (ev C k δ T).bind fun x T1 => (ev C v δ T1).bind fun y T2 => (evKV C r δ T2).bind fun ps T3 => .ok ((x, y) :: ps) T3
def evIt (C : Ctx) : It → List MV → Layer → Res Itd
  | .seq e, δ, T => (ev C e δ T).bind fun x T1 => match seqOf C T1 x with
    | some xs => .ok ⟨xs, srcOf C T1 x, none⟩ T1
    | none => match dctOf C T1 x with
      | some (ks, _) => if keysIt ks then .ok ⟨ks, [], lockOf C T1 x⟩ T1 else .stuck
      | none => .stuck
  | .range1 a, δ, T => (ev C a δ T).bind fun x T1 => match x with
    | .int i => if i < 1000000000 ∧ -1000000000 < i then .ok ⟨rangeL 0 i.toNat, [], none⟩ T1 else .stuck
    | _ => .stuck
  | .range2 a b, δ, T => (ev C a δ T).bind fun x T1 => (ev C b δ T1).bind fun y T2 => match x, y with
    | .int i, .int j => if i < 1000000000 ∧ -1000000000 < i ∧ j < 1000000000 ∧ -1000000000 < j then .ok ⟨rangeL i (j - i).toNat, [], none⟩ T2 else .stuck
    | _, _ => .stuck
  | .range3 a b c, δ, T => (ev C a δ T).bind fun x T1 => (ev C b δ T1).bind fun y T2 => (ev C c δ T2).bind fun z T3 => match x, y, z with
    | .int i, .int j, .int k => if i < 1000000000 ∧ -1000000000 < i ∧ j < 1000000000 ∧ -1000000000 < j ∧ k < 1000000 ∧ -1000000 < k ∧ k ≠ 0 then .ok ⟨rangeS i k (rangeN i j k), [], none⟩ T3 else .stuck
    | _, _, _ => .stuck
  | .enum e, δ, T => (ev C e δ T).bind fun x T1 => match lstOf C T1 x with
    | some xs => .ok ⟨enumL 0 xs, srcOf C T1 x, none⟩ T1
    | none => .stuck
  | .zip a b, δ, T => (ev C a δ T).bind fun x T1 => (ev C b δ T1).bind fun y T2 => match lstOf C T2 x, lstOf C T2 y with
    | some xs, some ys => .ok ⟨zipL xs ys, srcOf C T2 x ++ srcOf C T2 y, none⟩ T2
    | _, _ => .stuck
  | .items e, δ, T => (ev C e δ T).bind fun x T1 => match dctOf C T1 x with
    | some (ks, vs) => if keysIt ks then .ok ⟨zipL ks vs, [], lockOf C T1 x⟩ T1 else .stuck
    | none => .stuck
def asg (C : Ctx) : Tg → MV → List MV → Layer → Res (List MV)
  | .name i, v, δ, T => .ok (δ.set i v) T
  | .tup ts, v, δ, T => match v with
    | .tup xs => if xs.length = ts.len then asgs C ts xs δ T else .stuck
    | _ => .stuck
  | .fld o f, v, δ, T => (ev C o δ T).bind fun x T1 => (optR (putFld C T1 x f v) T1).bind fun T2 _ => .ok δ T2
  | .sub o i, v, δ, T => (ev C o δ T).bind fun x T1 => (ev C i δ T1).bind fun y T2 => (optR (putIx C T2 x y v) T2).bind fun T3 _ => .ok δ T3
def asgs (C : Ctx) : Tgs → List MV → List MV → Layer → Res (List MV)
  | .nil, [], δ, T => .ok δ T
  | .cons t ts, x :: xs, δ, T => (asg C t x δ T).bind fun δ1 T1 => asgs C ts xs δ1 T1
  | _, _, _, _ => .stuck
end
mutual
def exec (C : Ctx) : S → List MV → Layer → Res (Fl × List MV)
  | .asg t e, δ, T => (ev C e δ T).bind fun x T1 => (asg C t x δ T1).bind fun δ1 T2 => .ok (.next, δ1) T2
  | .par is es, δ, T => (evs C es δ T).bind fun vs T1 => if vs.length = is.length then .ok (.next, (is.zip vs).foldl (fun d p => d.set p.1 p.2) δ) T1 else .stuck
  | .expr e, δ, T => (ev C e δ T).bind fun _ T1 => .ok (.next, δ) T1
  | .ite c a b, δ, T => (ev C c δ T).bind fun x T1 => (optR (truthy C T1 x) T1).bind fun t T2 => if t then execs C a δ T2 else execs C b δ T2
  | .for_ t it body, δ, T => (evIt C it δ T).bind fun d T1 => lockR d.lock (forF C d.src (fun x δ T => (asg C t x δ T).bind fun δ1 T1 => execs C body δ1 T1) d.items δ) T1
  | .while_ c body, δ, T => whileF (fun δ T => (ev C c δ T).bind fun x T1 => optR (truthy C T1 x) T1) (fun δ T => execs C body δ T) C.W δ T
  | .ret e, δ, T => (ev C e δ T).bind fun x T1 => .ok (.ret x, δ) T1
  | .del o i, δ, T => (ev C o δ T).bind fun x T1 => (ev C i δ T1).bind fun y T2 => (optR (delIx C T2 x y) T2).bind fun T3 _ => .ok (.next, δ) T3
  | .pass, δ, T => .ok (.next, δ) T
  | .brk, δ, T => .ok (.brk, δ) T
  | .cnt, δ, T => .ok (.cnt, δ) T
  | .never, _, _ => .stuck
def execs (C : Ctx) : Ss → List MV → Layer → Res (Fl × List MV)
  | .nil, δ, T => .ok (.next, δ) T
  | .cons s ss, δ, T => (exec C s δ T).bind fun p T1 => match p.1 with
    | .next => execs C ss p.2 T1
    | f => .ok (f, p.2) T1
end

/-! ### calls -/
def startF (n : Nat) (vs : List MV) : List MV := vs ++ List.replicate (n - vs.length) .undef
def retOf : Fl → Option MV
  | .next => some .non
  | .ret v => some v
  | _ => none
def leaveF (k : Bool) (B' : List Layer) (T T' : Layer) (v : MV) : Res MV :=
  if k then match v with
    | .ref l j => if l = B'.length then match T'[j]? with
        | some (.lst xs) => match xs.mapM (freezeF (some j) B'.length T' depth0) with
          | some xs' => .ok (.ref (B'.length - 1) T.length) (T ++ [.lst xs'])
          | none => .stuck
        | some (.dct ks vs) => match ks.mapM (freezeF (some j) B'.length T' depth0), vs.mapM (freezeF (some j) B'.length T' depth0) with
          | some ks', some vs' => .ok (.ref (B'.length - 1) T.length) (T ++ [.dct ks' vs'])
          | _, _ => .stuck
        | _ => .stuck
      else .stuck
    | _ => .stuck
  else match freeze B'.length T' v with
    | some v' => .ok v' T
    | none => .stuck
/-- a def's body, from its arguments on -/
def bodyRun (P : Prog) (W : Nat) (call : Bool → Nat → List MV → List Layer → Layer → Res MV) (f : Nat) (vs : List MV) (B : List Layer) (T : Layer) : Res MV := match P.fns[f]? with
  | none => .stuck
  | some fd => (execs ⟨P, B, W, call⟩ fd.body (startF fd.slots vs) T).bind fun p T1 => optR (retOf p.1) T1
def outF {α : Type} (ℓ : Nat) (T : Layer) (r : Res α) (k : α → Layer → Res MV) : Res MV := match r with
  | .ok v T1 => k v T1
  | .exc c p T1 => match p.mapM (freeze ℓ T1) with
    | some p' => .exc c p' T
    | none => .stuck
  | .stuck => .stuck
def callN (P : Prog) (W : Nat) : Nat → Bool → Nat → List MV → List Layer → Layer → Res MV
  | 0, _, _, _, _, _ => .stuck
  | d + 1, k, f, vs, B, T => match P.fns[f]? with
    | none => .stuck
    | some fd => match fd.kind with
      | .imp => bodyRun P W (callN P W d) f vs B T
      | .initM c n => (bodyRun P W (callN P W d) f (.ref B.length T.length :: vs) B (T ++ [.ins c (List.replicate n .undef)])).bind fun v T1 => match v with
        | .non => .ok (.ref B.length T.length) T1
        | _ => .stuck
      | .pure => outF (B.length + 1) T (bodyRun P W (callN P W d) f vs (B ++ [T]) []) fun v T1 => leaveF k (B ++ [T]) T T1 v
      | .initF c n => outF (B.length + 1) T (bodyRun P W (callN P W d) f (.ref (B.length + 1) 0 :: vs) (B ++ [T]) [.ins c (List.replicate n .undef)]) fun v T1 => match v with
        | .non => match freeze (B.length + 1) T1 (.ref (B.length + 1) 0) with
          | some v => .ok v T
          | none => .stuck
        | _ => .stuck
end Mini
end
section
set_option linter.all false
set_option maxRecDepth 100000
set_option maxHeartbeats 2000000
namespace Mini
open PySem L2

/-! ### the relation between the two kinds of value -/
structure Tab where
  cls : Nat → Addr
  nm : Nat → Str
/-- what stays through a law: the written part, the world, the tables -/
structure Zt where
  prog : Program
  K : PySem.W.Frag
  w : World
  G : Tab
  P : Prog
/-- what turns: the part of the abstract heap that nobody changes, where the cells lie, how many there are -/
structure Rn where
  F : Hp
  φ : Nat → Nat → Addr
  n : Nat → Nat
  lk : Addr → Option Obj

abbrev AtO (a : Addr) (o : Obj) : HO := .ext fun h => h.get? a = some o

mutual
def keyOf : MV → Option NestedKey
  | .non => some .none
  | .bl b => some (.num (b2i b))
  | .int i => some (.num i)
  | .str s => some (.text ⟨s.toArray⟩)
  | .tup xs => (keysOf xs).map .tup
  | _ => none
def keysOf : List MV → Option (List NestedKey)
  | [] => some []
  | x :: xs => match keyOf x, keysOf xs with
    | some k, some ks => some (k :: ks)
    | _, _ => none
end

/-- a dict whose keys are tuples; one whose keys are none -/
def DctT (Z : Zt) (o : Obj) (ks : List MV) (kv vv : List V) : Prop :=
  ∃ (es : Array DictEntry) (ep : Nat) (xs : List (NestedKey × Addr × Value)), o.data = .dict es ep ∧ es.toList = xs.map (entryOfKey (nestedKind Z.prog Z.w)) ∧ (xs.map (·.1)).Nodup ∧ keysOf ks = some (xs.map (·.1)) ∧ kv = xs.map (fun x => V.ref x.2.1) ∧ Vals vv (xs.map (·.2.2)) ∧ ∀ x ∈ xs, x.1.depth ≤ 8
def DctL (Z : Zt) (o : Obj) (ks : List MV) (vv : List V) : Prop :=
  ∃ (es : Array DictEntry) (ep : Nat) (kvs : List (Leaf × Value)), o.data = .dict es ep ∧ KeysOf (leafKind Z.prog Z.w) es ∧ Pairs (leafKind Z.prog Z.w) es.toList kvs ∧ (kvs.map (·.1)).Nodup ∧ keysOf ks = some (kvs.map (·.1.key)) ∧ Vals vv (kvs.map (·.2))

def cnt : List MV → Nat
  | [] => 0
  | .undef :: r => cnt r
  | _ :: r => cnt r + 1
structure FldR (Z : Zt) (c : Nat) (fs : List MV) (ws : List V) (gs : List (Str × V)) : Prop where
  flds : ∃ cd, Z.P.cls[c]? = some cd ∧ cd.flds.length = fs.length ∧
    (∀ (j f : Nat) (x : MV) (v : V), cd.flds[j]? = some f → fs[j]? = some x → ws[j]? = some v → (match x with | .undef => True | _ => gs.lookup (Z.G.nm f) = some v)) ∧
    (∀ m v, gs.lookup m = some v → ∃ f ∈ cd.flds, Z.G.nm f = m)
  small : gs.length ≤ cnt fs

structure DctO (Z : Zt) (a : Addr) (o : Obj) (ks vs : List MV) (kv vv : List V) : Prop where
  ex : o.ExactDict
  ns : (a == sysModules) = false
  ents : DctT Z o ks kv vv ∨ DctL Z o ks vv
  sz : ks.length ≤ 1000000

mutual
def Rp (Z : Zt) (R : Rn) : MV → V → Prop
  | .undef, _ => True
  | .non, v => v = .non
  | .bl b, v => v = .bl b
  | .int i, v => v = .int i
  | .str s, v => v = .str ⟨s.toArray⟩
  | .tup xs, v => ∃ a vs, v = .ref a ∧ SqT Z.K R.F a vs ∧ Rps Z R xs vs
  | .lst xs, v => ∃ a vs, v = .ref a ∧ Rd R.F a (.lst vs) ∧ Rps Z R xs vs
  | .dct ks vs, v => ∃ a o kv vv, v = .ref a ∧ R.F a = some (AtO a o) ∧ Rps Z R ks kv ∧ Rps Z R vs vv ∧ DctO Z a o ks vs kv vv
  | .ins c fs, v => ∃ a dx gs ws, v = .ref a ∧ R.F a = some (.ins (Z.G.cls c) dx gs) ∧ Rps Z R fs ws ∧ FldR Z c fs ws gs
  | .ref l k, v => v = .ref (R.φ l k) ∧ k < R.n l
def Rps (Z : Zt) (R : Rn) : List MV → List V → Prop
  | [], vs => vs = []
  | x :: xs, vs => ∃ v r, vs = v :: r ∧ Rp Z R x v ∧ Rps Z R xs r
end

/-- R' knows all that R knows -/
structure Le (R R' : Rn) : Prop where
  F : ∀ a o, R.F a = some o → R'.F a = some o
  n : ∀ l, R.n l ≤ R'.n l
  φ : ∀ l k, k < R.n l → R'.φ l k = R.φ l k
  lk : ∀ a o, R.lk a = some o → R'.lk a = some o
theorem Le.refl (R : Rn) : Le R R := ⟨fun _ _ h => h, fun _ => Nat.le_refl _, fun _ _ _ => rfl, fun _ _ h => h⟩
theorem Le.trans {R R1 R2 : Rn} (a : Le R R1) (b : Le R1 R2) : Le R R2 :=
  ⟨fun x o h => b.F x o (a.F x o h), fun l => Nat.le_trans (a.n l) (b.n l), fun l k h => (b.φ l k (Nat.lt_of_lt_of_le h (a.n l))).trans (a.φ l k h), fun x o h => b.lk x o (a.lk x o h)⟩

/-- the same, the held dicts apart -/
structure Le0 (R R' : Rn) : Prop where
  F : ∀ a o, R.F a = some o → R'.F a = some o
  n : ∀ l, R.n l ≤ R'.n l
  φ : ∀ l k, k < R.n l → R'.φ l k = R.φ l k
theorem Le.to0 {R R' : Rn} (e : Le R R') : Le0 R R' := ⟨e.F, e.n, e.φ⟩
section
variable {Z : Zt} {R R' : Rn}
theorem Le0.sqT (e : Le0 R R') {a : Addr} {xs : List V} (h : SqT Z.K R.F a xs) : SqT Z.K R'.F a xs := Evl.ex_t (H := R.F) (H' := R'.F) e.F h
theorem Le0.rd (e : Le0 R R') {a : Addr} {u : HO} (h : Rd R.F a u) : Rd R'.F a u := Evl.ex_rd (H := R.F) (H' := R'.F) e.F h
mutual
theorem Rp.mono0 (e : Le0 R R') : ∀ (x : MV) (v : V), Rp Z R x v → Rp Z R' x v
  | .undef, _, _ => by simp only [Rp]
  | .non, _, h => by simp only [Rp] at h ⊢; exact h
  | .bl _, _, h => by simp only [Rp] at h ⊢; exact h
  | .int _, _, h => by simp only [Rp] at h ⊢; exact h
  | .str _, _, h => by simp only [Rp] at h ⊢; exact h
  | .tup xs, _, h => by
    simp only [Rp] at h ⊢
    obtain ⟨a, vs, h1, h2, h3⟩ := h
    exact ⟨a, vs, h1, e.sqT h2, Rps.mono0 e xs vs h3⟩
  | .lst xs, _, h => by
    simp only [Rp] at h ⊢
    obtain ⟨a, vs, h1, h2, h3⟩ := h
    exact ⟨a, vs, h1, e.rd h2, Rps.mono0 e xs vs h3⟩
  | .dct ks vs, _, h => by
    simp only [Rp] at h ⊢
    obtain ⟨a, o, kv, vv, h1, h2, h3, h4, h5⟩ := h
    exact ⟨a, o, kv, vv, h1, e.F _ _ h2, Rps.mono0 e ks kv h3, Rps.mono0 e vs vv h4, h5⟩
  | .ins c fs, _, h => by
    simp only [Rp] at h ⊢
    obtain ⟨a, dx, gs, ws, h1, h2, h3, h4⟩ := h
    exact ⟨a, dx, gs, ws, h1, e.F _ _ h2, Rps.mono0 e fs ws h3, h4⟩
  | .ref l k, _, h => by
    simp only [Rp] at h ⊢
    exact ⟨by rw [e.φ l k h.2]; exact h.1, Nat.lt_of_lt_of_le h.2 (e.n l)⟩
theorem Rps.mono0 (e : Le0 R R') : ∀ (xs : List MV) (vs : List V), Rps Z R xs vs → Rps Z R' xs vs
  | [], _, h => by simp only [Rps] at h ⊢; exact h
  | x :: xs, _, h => by
    simp only [Rps] at h ⊢
    obtain ⟨v, r, h1, h2, h3⟩ := h
    exact ⟨v, r, h1, Rp.mono0 e x v h2, Rps.mono0 e xs r h3⟩
end
theorem Rp.mono (e : Le R R') (x : MV) (v : V) (h : Rp Z R x v) : Rp Z R' x v := Rp.mono0 e.to0 x v h
theorem Rps.mono (e : Le R R') (xs : List MV) (vs : List V) (h : Rps Z R xs vs) : Rps Z R' xs vs := Rps.mono0 e.to0 xs vs h
theorem Rps.nil : Rps Z R [] [] := by simp only [Rps]
theorem Rps.cons {x : MV} {v : V} {xs : List MV} {vs : List V} (h : Rp Z R x v) (t : Rps Z R xs vs) : Rps Z R (x :: xs) (v :: vs) := by
  simp only [Rps]
  exact ⟨v, vs, rfl, h, t⟩
theorem Rps.len : ∀ {xs : List MV} {vs : List V}, Rps Z R xs vs → vs.length = xs.length
  | [], _, h => by simp only [Rps] at h; subst h; rfl
  | x :: xs, _, h => by
    simp only [Rps] at h
    obtain ⟨v, r, rfl, _, t⟩ := h
    simp [Rps.len t]
theorem Rps.get : ∀ {xs : List MV} {vs : List V} {i : Nat} {x : MV}, Rps Z R xs vs → xs[i]? = some x → ∃ v, vs[i]? = some v ∧ Rp Z R x v
  | [], _, _, _, _, e => by simp at e
  | y :: ys, _, 0, x, h, e => by
    simp only [Rps] at h
    obtain ⟨v, r, rfl, q, _⟩ := h
    simp at e; subst e
    exact ⟨v, rfl, q⟩
  | y :: ys, _, i + 1, x, h, e => by
    simp only [Rps] at h
    obtain ⟨v, r, rfl, _, t⟩ := h
    obtain ⟨u, h1, h2⟩ := Rps.get (i := i) t (by simpa using e)
    exact ⟨u, by simpa using h1, h2⟩
theorem Rps.append : ∀ {xs ys : List MV} {vs ws : List V}, Rps Z R xs vs → Rps Z R ys ws → Rps Z R (xs ++ ys) (vs ++ ws)
  | [], _, _, _, h, t => by simp only [Rps] at h; subst h; exact t
  | x :: xs, _, _, _, h, t => by
    simp only [Rps] at h
    obtain ⟨v, r, rfl, q, h'⟩ := h
    exact Rps.cons q (Rps.append h' t)
theorem Rps.take : ∀ {xs : List MV} {vs : List V} (n : Nat), Rps Z R xs vs → Rps Z R (xs.take n) (vs.take n)
  | _, _, 0, _ => by simpa using Rps.nil
  | [], _, n + 1, h => by simp only [Rps] at h; subst h; simpa using Rps.nil
  | x :: xs, _, n + 1, h => by
    simp only [Rps] at h
    obtain ⟨v, r, rfl, q, t⟩ := h
    simpa using Rps.cons q (Rps.take n t)
theorem Rps.drop : ∀ {xs : List MV} {vs : List V} (n : Nat), Rps Z R xs vs → Rps Z R (xs.drop n) (vs.drop n)
  | _, _, 0, h => by simpa using h
  | [], _, n + 1, h => by simp only [Rps] at h; subst h; simpa using Rps.nil
  | x :: xs, _, n + 1, h => by
    simp only [Rps] at h
    obtain ⟨v, r, rfl, q, t⟩ := h
    simpa using Rps.drop n t
theorem Rps.set : ∀ {xs : List MV} {vs : List V} {x : MV} {v : V} (i : Nat), Rps Z R xs vs → Rp Z R x v → Rps Z R (xs.set i x) (vs.set i v)
  | [], _, _, _, _, h, _ => by simp only [Rps] at h; subst h; simpa using Rps.nil
  | y :: ys, _, x, v, 0, h, q => by
    simp only [Rps] at h
    obtain ⟨u, r, rfl, _, t⟩ := h
    simpa using Rps.cons q t
  | y :: ys, _, x, v, i + 1, h, q => by
    simp only [Rps] at h
    obtain ⟨u, r, rfl, p, t⟩ := h
    simpa using Rps.cons p (Rps.set i t q)
end

/-! ### the store -/
def sz (B : List Layer) (T : Layer) (l : Nat) : Nat := if l = B.length then T.length else match B[l]? with
  | some t => t.length
  | none => 0
theorem getB_lt {B : List Layer} {T : Layer} {l k : Nat} {c : Cell} (h : getB B T l k = some c) : k < sz B T l := by
  unfold getB at h; unfold sz
  split at h
  · rename_i e; rw [if_pos e]; exact (List.getElem?_eq_some_iff.mp h).1
  · rename_i e; rw [if_neg e]
    split at h
    · rename_i t ht; first | (rw [ht]; exact (List.getElem?_eq_some_iff.mp h).1) | exact (List.getElem?_eq_some_iff.mp h).1
    · cases h
theorem getB_some {B : List Layer} {T : Layer} {l k : Nat} (h : k < sz B T l) : ∃ c, getB B T l k = some c := by
  unfold sz at h; unfold getB
  split at h
  · rename_i e; rw [if_pos e]; exact ⟨_, List.getElem?_eq_getElem h⟩
  · rename_i e; rw [if_neg e]
    split at h
    · rename_i t ht; first | (rw [ht]; exact ⟨_, List.getElem?_eq_getElem h⟩) | exact ⟨_, List.getElem?_eq_getElem h⟩
    · omega
/-- a cell at a -/
def CellOk (Z : Zt) (R : Rn) (H : Hp) (a : Addr) : Cell → Prop
  | .lst xs => ∃ vs, H a = some (.lst vs) ∧ Rps Z R xs vs
  | .dct ks vs => ∃ o kv vv, H a = some (AtO a o) ∧ Rps Z R ks kv ∧ Rps Z R vs vv ∧ DctO Z a o ks vs kv vv
  | .ins c fs => ∃ dx gs ws, H a = some (.ins (Z.G.cls c) dx gs) ∧ Rps Z R fs ws ∧ FldR Z c fs ws gs
  | .hold ks vs => ∃ o kv vv, R.lk a = some o ∧ H a = some (AtO a o) ∧ Rps Z R ks kv ∧ Rps Z R vs vv ∧ DctO Z a o ks vs kv vv
theorem CellOk.mono {Z : Zt} {R R' : Rn} {H H' : Hp} {a : Addr} (e : Le R R') (hH : H' a = H a) : ∀ {c : Cell}, CellOk Z R H a c → CellOk Z R' H' a c
  | .lst xs, ⟨vs, h, r⟩ => ⟨vs, hH.trans h, Rps.mono e _ _ r⟩
  | .dct ks vs, ⟨o, kv, vv, h, r1, r2, d⟩ => ⟨o, kv, vv, hH.trans h, Rps.mono e _ _ r1, Rps.mono e _ _ r2, d⟩
  | .ins c fs, ⟨dx, gs, ws, h, r, f⟩ => ⟨dx, gs, ws, hH.trans h, Rps.mono e _ _ r, f⟩
  | .hold ks vs, ⟨o, kv, vv, k, h, r1, r2, d⟩ => ⟨o, kv, vv, e.lk _ _ k, hH.trans h, Rps.mono e _ _ r1, Rps.mono e _ _ r2, d⟩
structure Sto (Z : Zt) (R : Rn) (B : List Layer) (T : Layer) (H : Hp) : Prop where
  sub : ∀ a o, R.F a = some o → H a = some o
  n : R.n = sz B T
  cell : ∀ l k c, getB B T l k = some c → R.F (R.φ l k) = none ∧ CellOk Z R H (R.φ l k) c
  inj : ∀ l k l' k', k < R.n l → k' < R.n l' → R.φ l k = R.φ l' k' → l = l' ∧ k = k'
  lkC : ∀ a o, R.lk a = some o → ∃ l k ks vs, R.φ l k = a ∧ getB B T l k = some (.hold ks vs)
/-- the names -/
def Frm (Z : Zt) (R : Rn) (δ : List MV) (σ : St) : Prop := δ.length = σ.length ∧ ∀ (i : Nat) (x : MV), δ[i]? = some x → match x with
  | .undef => True
  | _ => ∃ v, σ[i]? = some (some v) ∧ Rp Z R x v
theorem Frm.mono {Z : Zt} {R R' : Rn} {δ : List MV} {σ : St} (e : Le R R') (h : Frm Z R δ σ) : Frm Z R' δ σ := by
  refine ⟨h.1, fun i x hx => ?_⟩
  have q := h.2 i x hx
  cases x <;> first | trivial | (obtain ⟨v, h1, h2⟩ := q; exact ⟨v, h1, Rp.mono e _ _ h2⟩)
theorem Frm.mono0 {Z : Zt} {R R' : Rn} {δ : List MV} {σ : St} (e : Le0 R R') (h : Frm Z R δ σ) : Frm Z R' δ σ := by
  refine ⟨h.1, fun i x hx => ?_⟩
  have q := h.2 i x hx
  cases x <;> first | trivial | (obtain ⟨v, h1, h2⟩ := q; exact ⟨v, h1, Rp.mono0 e _ _ h2⟩)
theorem Frm.get {Z : Zt} {R : Rn} {δ : List MV} {σ : St} {i : Nat} {x : MV} (h : Frm Z R δ σ) (e : δ[i]? = some x) (u : x ≠ .undef) : ∃ v, σ[i]? = some (some v) ∧ Rp Z R x v := by
  have q := h.2 i x e
  cases x <;> first | exact absurd rfl u | exact q

theorem CellOk.some {Z : Zt} {R : Rn} {H : Hp} {a : Addr} : ∀ {c : Cell}, CellOk Z R H a c → ∃ o, H a = some o
  | .lst _, ⟨_, h, _⟩ => ⟨_, h⟩
  | .dct _ _, ⟨_, _, _, h, _⟩ => ⟨_, h⟩
  | .ins _ _, ⟨_, _, _, h, _⟩ => ⟨_, h⟩
  | .hold _ _, ⟨_, _, _, _, h, _⟩ => ⟨_, h⟩
theorem Sto.occ {Z : Zt} {R : Rn} {B : List Layer} {T : Layer} {H : Hp} (s : Sto Z R B T H) {l k : Nat} (h : k < R.n l) : ∃ o, H (R.φ l k) = some o := by
  rw [s.n] at h
  obtain ⟨c, hc⟩ := getB_some h
  exact (s.cell l k c hc).2.some

/-- behind an evaluation: what stood and is no cell of the layer stands, new cells lie where nothing was -/
structure Ext (L : Nat) (R R' : Rn) (H H' : Hp) : Prop where
  le : Le R R'
  keep : ∀ a o, H a = some o → (∀ k, k < R.n L → R.φ L k ≠ a) → H' a = some o
  new : ∀ l k, R.n l ≤ k → k < R'.n l → H (R'.φ l k) = none
  occ : ∀ l k, k < R'.n l → ∃ o, H' (R'.φ l k) = some o
  newF : ∀ a o, R'.F a = some o → R.F a = none → H a = none
theorem Ext.refl {Z : Zt} {R : Rn} {B : List Layer} {T : Layer} {H : Hp} {L : Nat} (s : Sto Z R B T H) : Ext L R R H H := ⟨Le.refl R, fun _ _ h _ => h, fun l k h1 h2 => absurd h2 (Nat.not_lt.mpr h1), fun _ _ h => s.occ h, fun a o h1 h2 => by rw [h1] at h2; cases h2⟩
/-- nothing that stood is gone -/
theorem Ext.gone {L : Nat} {R R1 : Rn} {H H1 : Hp} (e : Ext L R R1 H H1) {p : Addr} (hp : H1 p = none) : H p = none := by
  cases q : H p with
  | none => rfl
  | some o =>
    by_cases hc : ∀ k, k < R.n L → R.φ L k ≠ p
    · rw [e.keep _ _ q hc] at hp; cases hp
    · exfalso
      exact hc fun k h z => by
        obtain ⟨o', h'⟩ := e.occ L k (Nat.lt_of_lt_of_le h (e.le.n L))
        rw [e.le.φ L k h, z, hp] at h'; cases h'
theorem Ext.trans {L : Nat} {R R1 R2 : Rn} {H H1 H2 : Hp} (a : Ext L R R1 H H1) (b : Ext L R1 R2 H1 H2) : Ext L R R2 H H2 := by
  refine ⟨a.le.trans b.le, fun x o h hn => ?_, fun l k h1 h2 => ?_, b.occ, fun x o h1 h2 => ?_⟩
  · refine b.keep x o (a.keep x o h hn) fun k hk => ?_
    by_cases hl : k < R.n L
    · rw [a.le.φ L k hl]; exact hn k hl
    · intro e
      have := a.new L k (Nat.not_lt.mp hl) hk
      rw [e, h] at this; cases this
  · by_cases hl : k < R1.n l
    · rw [b.le.φ l k hl]; exact a.new l k h1 hl
    · exact a.gone (b.new l k (Nat.not_lt.mp hl) h2)
  · cases q1 : R1.F x with
    | some o1 => exact a.newF x o1 q1 h2
    | none => exact a.gone (b.newF x o h1 q1)

/-! ### what Mini says, as a reading -/
/-- what holds of an exception that leaves: the names, its class, its values, the store -/
abbrev XT := St → Nat → List MV → Layer → Rn → Hp → Prop
/-- what an outcome promises -/
def Out {α : Type} (Z : Zt) (B : List Layer) (XE : XT) (σ : St) (r : Res α) (R : Rn) (H : Hp) (K : α → Layer → Rn → Hp → Prop) : Prop := match r with
  | .ok a T => ∀ H' R', Ext B.length R R' H H' → Sto Z R' B T H' → K a T R' H'
  | .exc c p T => ∀ H' R', Ext B.length R R' H H' → Sto Z R' B T H' → XE σ c p T R' H'
  | .stuck => False
section
variable {Z : Zt} {B : List Layer} {XE : XT} {σ : St} {R R1 : Rn} {H H1 : Hp} {α β : Type}
theorem Out.mono {r : Res α} {K : α → Layer → Rn → Hp → Prop} (h : Out Z B XE σ r R H K) (e : Ext B.length R R1 H H1) : Out Z B XE σ r R1 H1 K := by
  cases r with
  | ok a T => exact fun H' R' e' s' => h H' R' (e.trans e') s'
  | exc c p T => exact fun H' R' e' s' => h H' R' (e.trans e') s'
  | stuck => exact h
theorem Out.bind {r : Res α} {f : α → Layer → Res β} {K : β → Layer → Rn → Hp → Prop} (h : Out Z B XE σ (r.bind f) R H K) : Out Z B XE σ r R H fun a T R' H' => Out Z B XE σ (f a T) R' H' K := by
  cases r with
  | ok a T => exact fun H' R' e' s' => Out.mono (r := f a T) h e'
  | exc c p T => exact h
  | stuck => exact h
theorem Out.imp {r : Res α} {K K' : α → Layer → Rn → Hp → Prop} (h : Out Z B XE σ r R H K) (w : ∀ a T R' H', r = .ok a T → K a T R' H' → K' a T R' H') : Out Z B XE σ r R H K' := by
  cases r with
  | ok a T => exact fun H' R' e' s' => w _ _ _ _ rfl (h H' R' e' s')
  | exc c p T => exact h
  | stuck => exact h
/-- the store, too -/
theorem Out.sto {r : Res α} {K : α → Layer → Rn → Hp → Prop} (h : Out Z B XE σ r R H K) : Out Z B XE σ r R H fun a T R' H' => Ext B.length R R' H H' ∧ Sto Z R' B T H' ∧ K a T R' H' := by
  cases r with
  | ok a T => exact fun H' R' e' s' => ⟨e', s', h H' R' e' s'⟩
  | exc c p T => exact h
  | stuck => exact h
theorem Out.opt {o : Option α} {T : Layer} {K : α → Layer → Rn → Hp → Prop} (h : Out Z B XE σ (optR o T) R H K) (s : Sto Z R B T H) : ∃ a, o = some a ∧ K a T R H := by
  cases o with
  | none => exact h.elim
  | some a => exact ⟨a, rfl, h H R (Ext.refl s) s⟩
theorem Out.ok {a : α} {T : Layer} {K : α → Layer → Rn → Hp → Prop} (h : Out Z B XE σ (.ok a T) R H K) (s : Sto Z R B T H) : K a T R H := h H R (Ext.refl s) s
theorem Out.sized {c : Prop} [Decidable c] {r : Res α} {K : α → Layer → Rn → Hp → Prop} (h : Out Z B XE σ (if c then r else .stuck) R H K) : c ∧ Out Z B XE σ r R H K := by
  by_cases q : c
  · rw [if_pos q] at h; exact ⟨q, h⟩
  · rw [if_neg q] at h; exact h.elim
theorem Out.ifT {c : Prop} [Decidable c] {a b : Res α} {K : α → Layer → Rn → Hp → Prop} (h : Out Z B XE σ (if c then a else b) R H K) (q : c) : Out Z B XE σ a R H K := by rw [if_pos q] at h; exact h
theorem Out.ifF {c : Prop} [Decidable c] {a b : Res α} {K : α → Layer → Rn → Hp → Prop} (h : Out Z B XE σ (if c then a else b) R H K) (q : ¬ c) : Out Z B XE σ b R H K := by rw [if_neg q] at h; exact h
end
def kE (Z : Zt) (Q : VK) : MV → Layer → Rn → Hp → Prop := fun v _ R' H' => ∀ x, Rp Z R' v x → Q x H'
def tE (Z : Zt) (C : Ctx) (XE : XT) (me : E) : TE := fun σ H Q => ∃ R δ T, Frm Z R δ σ ∧ Sto Z R C.B T H ∧ Out Z C.B XE σ (ev C me δ T) R H (kE Z Q)
/-- a test -/
def kT (C : Ctx) (Q : Bool → Hp → Prop) : MV → Layer → Rn → Hp → Prop := fun v T _ H' => ∀ b, truthy C T v = some b → Q b H'
def tT (Z : Zt) (C : Ctx) (XE : XT) (me : E) : TT := fun σ H Q => ∃ R δ T, Frm Z R δ σ ∧ Sto Z R C.B T H ∧ Out Z C.B XE σ ((ev C me δ T).bind fun x T1 => optR (truthy C T1 x) T1) R H fun b _ _ H' => Q b H'
def tEs (Z : Zt) (C : Ctx) (XE : XT) (es : Es) : TA := fun σ H Q => ∃ R δ T, Frm Z R δ σ ∧ Sto Z R C.B T H ∧ Out Z C.B XE σ (evs C es δ T) R H fun vs _ R' H' => ∀ xs, Rps Z R' vs xs → Q xs H'
/-- a statement -/
def kS (Z : Zt) (D : Ends) : Fl × List MV → Layer → Rn → Hp → Prop := fun p _ R' H' => match p.1 with
  | .next => ∀ σ', Frm Z R' p.2 σ' → D.nx σ' H'
  | .brk => ∀ σ', Frm Z R' p.2 σ' → D.bk σ' H'
  | .cnt => ∀ σ', Frm Z R' p.2 σ' → D.ct σ' H'
  | .ret v => ∀ x, Rp Z R' v x → D.rt x H'
end Mini
end
section
set_option linter.all false
set_option maxRecDepth 100000
set_option maxHeartbeats 2000000
namespace Mini
open PySem PySem.Spec PyProof.Rows L2

theorem bindOk {α β : Type} {r : Res α} {f : α → Layer → Res β} {b : β} {T' : Layer} (h : r.bind f = .ok b T') : ∃ a T1, r = .ok a T1 ∧ f a T1 = .ok b T' := by
  cases r with
  | ok a T1 => exact ⟨a, T1, rfl, h⟩
  | exc c p T1 => cases h
  | stuck => cases h
theorem optOk {α : Type} {o : Option α} {T T' : Layer} {a : α} (h : optR o T = .ok a T') : o = some a ∧ T' = T := by
  cases o with
  | none => cases h
  | some b => cases h; exact ⟨rfl, rfl⟩

section
variable {X : Cx} {e : PySem.Expr}
theorem PEimp {t t' : TE} (h : PE X e t) (w : ∀ σ H Q, t' σ H Q → t σ H Q) : PE X e t' := ⟨fun pins s σ H Q I q => h.run pins s σ H Q I (w σ H Q q)⟩
theorem PTimp {t t' : TT} (h : PT X e t) (w : ∀ σ H Q, t' σ H Q → t σ H Q) : PT X e t' := ⟨fun pins s σ H Q I q => h.run pins s σ H Q I (w σ H Q q)⟩
theorem PWimp {t t' : TT} (h : PW X e t) (w : ∀ σ H Q, t' σ H Q → t σ H Q) : PW X e t' := ⟨fun wh pins s σ H Q I q => h.run wh pins s σ H Q I (w σ H Q q)⟩
theorem PAimp {es : List PySem.Expr} {t t' : TA} (h : PA X es t) (w : ∀ σ H Q, t' σ H Q → t σ H Q) : PA X es t' := ⟨fun p pins s σ H Q I q => h.run p pins s σ H Q I (w σ H Q q)⟩
theorem PSimp {st : Stmt} {t t' : TS} (h : PS X st t) (w : ∀ D σ H, t' D σ H → t D σ H) : PS X st t' := ⟨fun pins s σ H D I q => h.run pins s σ H D I (w D σ H q)⟩
theorem PSsimp {st : List Stmt} {t t' : TS} (h : PSs X st t) (w : ∀ D σ H, t' D σ H → t D σ H) : PSs X st t' := ⟨fun pins s σ H D I q => h.run pins s σ H D I (w D σ H q)⟩
end

/-- what a body's context must be -/
structure XOk (X : Cx) (Z : Zt) (C : Ctx) : Prop where
  prog : X.prog = Z.prog
  K : X.K = Z.K
  w : X.w = Z.w
  P : C.P = Z.P
  nd : X.N.Nodup
  calm : X.calm = true
  room : Room 1 X.A

section
variable {X : Cx} {Z : Zt} {C : Ctx} {XE : XT} {σ : L2.St} {H : Hp} {Q : VK}

/-! ### constants, names -/
theorem s_const {e : PySem.Expr} {v : V} {x : MV} (h : PE X e (tC v)) (r : ∀ R, Rp Z R x v) : PE X e (tE Z C XE (.const x)) := PEimp h fun σ H Q ⟨R, δ, T, _, st, q⟩ => by
  simp only [ev] at q
  exact q.ok st v (r R)
theorem s_var {e : PySem.Expr} {i : Nat} (h : PE X e (tVar i)) : PE X e (tE Z C XE (.var i)) := PEimp h fun σ H Q ⟨R, δ, T, fr, st, q⟩ => by
  simp only [ev] at q
  split at q
  · exact q.elim
  · rename_i v hne hv
    obtain ⟨u, h1, h2⟩ := fr.get hv (fun z => by subst z; exact hne rfl)
    exact ⟨u, h1, q.ok st u h2⟩
  · exact q.elim

/-- one operand, two, three, one after the other, then what is made of them -/
theorem one {α : Type} {a : E} {f : MV → Layer → Res α} {R : Rn} {δ : List MV} {T : Layer} {K : α → Layer → Rn → Hp → Prop} {r : V → Hp → Prop} (fr : Frm Z R δ σ) (st : Sto Z R C.B T H)
    (ee : Out Z C.B XE σ ((ev C a δ T).bind f) R H K)
    (h : ∀ x T1 R1 H1 vx, Ext C.B.length R R1 H H1 → Frm Z R1 δ σ → Sto Z R1 C.B T1 H1 → Rp Z R1 x vx → Out Z C.B XE σ (f x T1) R1 H1 K → r vx H1) :
    tE Z C XE a σ H r :=
  ⟨R, δ, T, fr, st, ee.bind.sto.imp fun x T1 R1 H1 _ ⟨e1, s1, k⟩ vx p => h x T1 R1 H1 vx e1 (fr.mono e1.le) s1 p k⟩
theorem two {α : Type} {a b : E} {f : MV → MV → Layer → Res α} {R : Rn} {δ : List MV} {T : Layer} {K : α → Layer → Rn → Hp → Prop} {r : V → V → Hp → Prop} (fr : Frm Z R δ σ) (st : Sto Z R C.B T H)
    (ee : Out Z C.B XE σ ((ev C a δ T).bind fun x T1 => (ev C b δ T1).bind fun y T2 => f x y T2) R H K)
    (h : ∀ x y T2 R2 H2 vx vy, Ext C.B.length R R2 H H2 → Frm Z R2 δ σ → Sto Z R2 C.B T2 H2 → Rp Z R2 x vx → Rp Z R2 y vy → Out Z C.B XE σ (f x y T2) R2 H2 K → r vx vy H2) :
    tE Z C XE a σ H fun x H1 => tE Z C XE b σ H1 fun y H2 => r x y H2 :=
  one fr st ee fun x T1 R1 H1 vx e1 f1 s1 p1 k1 => one f1 s1 k1 fun y T2 R2 H2 vy e2 f2 s2 p2 k2 => h x y T2 R2 H2 vx vy (e1.trans e2) f2 s2 (Rp.mono e2.le _ _ p1) p2 k2

/-! ### arithmetic -/
theorem op_mulZ : OpR X (binaryOp .Mult) (rI (fun i j => mulOk i j = true) fun i j => .int (i * j)) := opI fun i j _ _ _ _ _ hc q => mul_int q (by
  unfold mulOk at hc
  simp only [Bool.or_eq_true, decide_eq_true_eq] at hc
  rcases hc with (h | h) | h
  · exact .of_left (intBits_le_64 (by unfold p64 at h; omega) (by unfold p64 at h; omega))
  · exact .of_right (intBits_le_64 (by unfold p64 at h; omega) (by unfold p64 at h; omega))
  · have b : ∀ x : Int, Builtin.Int.intBits x ≤ x.natAbs.log2 + 1 := fun x => by
      unfold Builtin.Int.intBits
      split <;> omega
    have h1 := b i
    have h2 := b j
    have e : bitsLine = 134217728 := by decide
    unfold IntMulOk
    intro z
    rw [Bool.and_eq_true] at z
    have z2 := z.2
    unfold Builtin.Int.intTooBig at z2
    have z3 := of_decide_eq_true z2
    rw [e] at z3
    omega)
theorem op_powZ : OpR X (binaryOp .Pow) (rI (fun i j => powOk i j = true) fun i j => .int (i ^ j.toNat)) := opI fun i j _ _ _ _ _ hc q => by
  unfold powOk at hc
  simp only [Bool.and_eq_true, Bool.or_eq_true, decide_eq_true_eq] at hc
  obtain ⟨⟨h0, h1⟩, h | h⟩ := hc
  · exact pow_int_small h0 (by omega) (by unfold p64 at h; omega) q
  · refine pow_int h0 ?_ q
    have b : (Builtin.Int.intBits i : Int) ≤ (i.natAbs.log2 : Int) + 1 := by
      unfold Builtin.Int.intBits
      split <;> omega
    have : (Builtin.Int.intBits i : Int) * j ≤ ((i.natAbs.log2 : Int) + 1) * j := Int.mul_le_mul_of_nonneg_right b h0
    have e : (2 : Int) ^ 27 = 134217728 := by decide
    rw [e]; omega
theorem op_fdivZ : OpR X (binaryOp .FloorDiv) (rI (fun _ j => 0 < j ∧ j < 1073741824) fun i j => .int (i / j)) := op_fdiv

/-! ### what a value is, by the store -/
theorem Sto.sqT {R : Rn} {T : Layer} (s : Sto Z R C.B T H) {a : Addr} {xs : List V} (h : SqT Z.K R.F a xs) : SqT Z.K H a xs := Evl.ex_t (H := R.F) (H' := H) s.sub h
theorem Sto.rd {R : Rn} {T : Layer} (s : Sto Z R C.B T H) {a : Addr} {u : HO} (h : Rd R.F a u) : Rd H a u := Evl.ex_rd (H := R.F) (H' := H) s.sub h
theorem Sto.cellAt {R : Rn} {T : Layer} (s : Sto Z R C.B T H) {l k : Nat} {c : Cell} (h : C.get T l k = some c) : R.F (R.φ l k) = none ∧ CellOk Z R H (R.φ l k) c := s.cell l k c h
theorem lstOf_ok {R : Rn} {T : Layer} (s : Sto Z R C.B T H) {x : MV} {v : V} {xs : List MV} (p : Rp Z R x v) (h : lstOf C T x = some xs) : ∃ a vs, v = .ref a ∧ Rd H a (.lst vs) ∧ Rps Z R xs vs := by
  cases x with
  | lst ys =>
    simp only [lstOf, Option.some.injEq] at h; subst h
    simp only [Rp] at p
    obtain ⟨a, vs, h1, h2, h3⟩ := p
    exact ⟨a, vs, h1, s.rd h2, h3⟩
  | ref l k =>
    simp only [Rp] at p
    simp only [lstOf] at h
    split at h
    · rename_i ys hc
      simp only [Option.some.injEq] at h; subst h
      obtain ⟨_, vs, h1, h2⟩ := s.cellAt hc
      exact ⟨_, vs, p.1, .inl h1, h2⟩
    · cases h
  | _ => simp only [lstOf] at h; cases h
theorem seqOf_ok {R : Rn} {T : Layer} (s : Sto Z R C.B T H) {x : MV} {v : V} {xs : List MV} (p : Rp Z R x v) (h : seqOf C T x = some xs) : ∃ a vs, v = .ref a ∧ (Rd H a (.lst vs) ∨ SqT Z.K H a vs) ∧ Rps Z R xs vs := by
  cases x with
  | tup ys =>
    simp only [seqOf, Option.some.injEq] at h; subst h
    simp only [Rp] at p
    obtain ⟨a, vs, h1, h2, h3⟩ := p
    exact ⟨a, vs, h1, .inr (s.sqT h2), h3⟩
  | lst ys =>
    obtain ⟨a, vs, h1, h2, h3⟩ := lstOf_ok s p (xs := xs) (by simpa only [lstOf, seqOf] using h)
    exact ⟨a, vs, h1, .inl h2, h3⟩
  | ref l k =>
    obtain ⟨a, vs, h1, h2, h3⟩ := lstOf_ok s p (xs := xs) (by simpa only [lstOf, seqOf] using h)
    exact ⟨a, vs, h1, .inl h2, h3⟩
  | _ => simp only [seqOf] at h; cases h
theorem insOf_ok {R : Rn} {T : Layer} (s : Sto Z R C.B T H) {x : MV} {v : V} {c : Nat} {fs : List MV} (p : Rp Z R x v) (h : insOf C T x = some (c, fs)) :
    ∃ a dx gs ws, v = .ref a ∧ H a = some (.ins (Z.G.cls c) dx gs) ∧ Rps Z R fs ws ∧ FldR Z c fs ws gs := by
  cases x with
  | ins d gs =>
    simp only [insOf, Option.some.injEq, Prod.mk.injEq] at h
    obtain ⟨rfl, rfl⟩ := h
    simp only [Rp] at p
    obtain ⟨a, dx, gs, ws, h1, h2, h3, h4⟩ := p
    exact ⟨a, dx, gs, ws, h1, s.sub _ _ h2, h3, h4⟩
  | ref l k =>
    simp only [Rp] at p
    simp only [insOf] at h
    split at h
    · rename_i d ys hc
      simp only [Option.some.injEq, Prod.mk.injEq] at h
      obtain ⟨rfl, rfl⟩ := h
      obtain ⟨_, dx, gs, ws, h1, h2, h3⟩ := s.cellAt hc
      exact ⟨_, dx, gs, ws, p.1, h1, h2, h3⟩
    · cases h
  | _ => simp only [insOf] at h; cases h
/-! ### an object that only we know -/
structure Loose (R : Rn) (H : Hp) (p : Addr) (o : HO) : Prop where
  at_ : H p = some o
  f : R.F p = none
  c : ∀ l k, k < R.n l → R.φ l k ≠ p
section
variable {L : Nat} {R R0 R' : Rn} {B : List Layer} {T : Layer} {H0 H' : Hp} {p : Addr} {o o' : HO}
theorem Loose.ext (h : Loose R H p o) (e : Ext L R R' H H') : Loose R' H' p o := by
  refine ⟨e.keep p o h.at_ (h.c _), ?_, fun l k hk q => ?_⟩
  · cases q : R'.F p with
    | none => rfl
    | some u =>
      have := e.newF p u q h.f
      rw [h.at_] at this; cases this
  · by_cases hl : k < R.n l
    · rw [e.le.φ l k hl] at q; exact h.c l k hl q
    · have := e.new l k (Nat.not_lt.mp hl) hk
      rw [q, h.at_] at this; cases this
theorem Sto.noF (s : Sto Z R B T H) (hp : H p = none) : R.F p = none := by
  cases h : R.F p with
  | none => rfl
  | some u => rw [s.sub _ _ h] at hp; cases hp
theorem Sto.noC (s : Sto Z R B T H) (hp : H p = none) : ∀ l k, k < R.n l → R.φ l k ≠ p := fun l k h e => by
  obtain ⟨u, q⟩ := s.occ h
  rw [e, hp] at q; cases q
theorem Sto.upd' (s : Sto Z R B T H) (hf : R.F p = none) (hc : ∀ l k, k < R.n l → R.φ l k ≠ p) : Sto Z R B T (upd H p o) := by
  refine ⟨fun a u h => ?_, s.n, fun l' k c h => ?_, s.inj, s.lkC⟩
  · rw [upd_ne (ne_of_none h hf)]; exact s.sub a u h
  · obtain ⟨h1, h2⟩ := s.cell l' k c h
    exact ⟨h1, CellOk.mono (Le.refl R) (upd_ne (hc l' k (by rw [s.n]; exact getB_lt h))) h2⟩
theorem Ext.put (e : Ext L R R' H H') (hp : H p = none) : Ext L R R' H (upd H' p o) :=
  ⟨e.le, fun a u h hn => by rw [upd_ne (ne_of_none h hp)]; exact e.keep a u h hn, e.new, fun l k h => by
    by_cases q : R'.φ l k = p
    · rw [q]; exact ⟨o, upd_same⟩
    · rw [upd_ne q]; exact e.occ l k h, e.newF⟩
theorem Loose.new (s : Sto Z R B T H) (hp : H p = none) (o : HO) : Loose R (upd H p o) p o ∧ Sto Z R B T (upd H p o) ∧ Ext L R R H (upd H p o) :=
  ⟨⟨upd_same, s.noF hp, s.noC hp⟩, s.upd' (s.noF hp) (s.noC hp), (Ext.refl s).put hp⟩
theorem Loose.put (h : Loose R H p o) (s : Sto Z R B T H) (o' : HO) : Loose R (upd H p o') p o' ∧ Sto Z R B T (upd H p o') :=
  ⟨⟨upd_same, h.f, h.c⟩, s.upd' h.f h.c⟩
/-- it is frozen -/
theorem Loose.fz (h : Loose R H p o) (s : Sto Z R B T H) (e : Ext L R0 R H0 H) (hp : H0 p = none) : Ext L R0 { R with F := upd R.F p o } H0 H ∧ Sto Z { R with F := upd R.F p o } B T H ∧ Le R { R with F := upd R.F p o } := by
  have l : Le R { R with F := upd R.F p o } := ⟨fun a u q => by
    show upd R.F p o a = some u
    rw [upd_ne (ne_of_none q h.f)]; exact q, fun _ => Nat.le_refl _, fun _ _ _ => rfl, fun _ _ h => h⟩
  have sto : Sto Z { R with F := upd R.F p o } B T H := by
    refine ⟨fun a u q => ?_, s.n, fun l' k c q => ?_, s.inj, s.lkC⟩
    · have q : upd R.F p o a = some u := q
      by_cases ha : a = p
      · subst ha; rw [upd_same] at q; rw [← q]; exact h.at_
      · rw [upd_ne ha] at q; exact s.sub _ _ q
    · obtain ⟨h1, h2⟩ := s.cell l' k c q
      exact ⟨by show upd R.F p o (R.φ l' k) = none; rw [upd_ne (h.c l' k (by rw [s.n]; exact getB_lt q))]; exact h1, CellOk.mono l rfl h2⟩
  refine ⟨⟨e.le.trans l, e.keep, e.new, e.occ, fun a u h1 h2 => ?_⟩, sto, l⟩
  have h1 : upd R.F p o a = some u := h1
  by_cases ha : a = p
  · subst ha; exact hp
  · rw [upd_ne ha] at h1; exact e.newF a u h1 h2
/-- with one cell more -/
def Rn.more (R : Rn) (L k : Nat) (p : Addr) : Rn := { R with φ := fun l j => if l = L ∧ j = k then p else R.φ l j, n := fun l => if l = L then k + 1 else R.n l }
theorem getB_push {B : List Layer} {T : Layer} {c : Cell} {l k : Nat} : getB B (T ++ [c]) l k = if l = B.length ∧ k = T.length then some c else getB B T l k := by
  unfold getB
  by_cases h : l = B.length
  · simp only [if_pos h, h, true_and]
    by_cases hk : k = T.length
    · subst hk; simp
    · rw [if_neg hk]
      by_cases h2 : k < T.length
      · rw [List.getElem?_append_left h2]
      · rw [List.getElem?_eq_none (by simp; omega)]
        simp only [if_true]
        rw [List.getElem?_eq_none (by omega)]
  · simp only [if_neg h, h, false_and, if_false]
theorem sz_push {B : List Layer} {T : Layer} {c : Cell} {l : Nat} : sz B (T ++ [c]) l = if l = B.length then T.length + 1 else sz B T l := by
  unfold sz
  split <;> simp
theorem sz_top {B : List Layer} {T : Layer} : sz B T B.length = T.length := by unfold sz; rw [if_pos rfl]
/-- it becomes a cell -/
theorem Loose.cell {c : Cell} (h : Loose R H p o) (s : Sto Z R B T H) (e : Ext L R0 R H0 H) (hp : H0 p = none) (hc : ∀ R', Le R R' → CellOk Z R' H p c) :
    Ext L R0 (R.more B.length T.length p) H0 H ∧ Sto Z (R.more B.length T.length p) B (T ++ [c]) H ∧ Le R (R.more B.length T.length p) ∧ (R.more B.length T.length p).φ B.length T.length = p ∧ T.length < (R.more B.length T.length p).n B.length := by
  have hT : R.n B.length = T.length := by rw [s.n, sz_top]
  have l : Le R (R.more B.length T.length p) := by
    refine ⟨fun a u h => h, fun l' => ?_, fun l' k h => ?_, fun _ _ h => h⟩
    · show R.n l' ≤ if l' = B.length then T.length + 1 else R.n l'
      split
      · rename_i e; rw [e, hT]; omega
      · exact Nat.le_refl _
    · show (if l' = B.length ∧ k = T.length then p else R.φ l' k) = R.φ l' k
      rw [if_neg]
      rintro ⟨rfl, rfl⟩
      rw [hT] at h; omega
  have hn : (R.more B.length T.length p).n = sz B (T ++ [c]) := by
    funext l'
    rw [sz_push]
    show (if l' = B.length then T.length + 1 else R.n l') = _
    rw [s.n]
  have hat : ∀ l' k c', getB B (T ++ [c]) l' k = some c' → (l' = B.length ∧ k = T.length ∧ c' = c ∧ (R.more B.length T.length p).φ l' k = p) ∨ (getB B T l' k = some c' ∧ (R.more B.length T.length p).φ l' k = R.φ l' k) := by
    intro l' k c' h
    rw [getB_push] at h
    by_cases e : l' = B.length ∧ k = T.length
    · rw [if_pos e] at h
      exact .inl ⟨e.1, e.2, (Option.some.inj h).symm, by show (if l' = B.length ∧ k = T.length then p else R.φ l' k) = p; rw [if_pos e]⟩
    · rw [if_neg e] at h
      exact .inr ⟨h, by show (if l' = B.length ∧ k = T.length then p else R.φ l' k) = _; rw [if_neg e]⟩
  have hlt : ∀ l' k, k < (R.more B.length T.length p).n l' → (l' = B.length ∧ k = T.length) ∨ k < R.n l' := by
    intro l' k h
    have h : k < if l' = B.length then T.length + 1 else R.n l' := h
    split at h
    · rename_i e
      by_cases q : k = T.length
      · exact .inl ⟨e, q⟩
      · exact .inr (by rw [e, hT]; omega)
    · exact .inr h
  have hold := h.c
  have hF := h.f
  have sto : Sto Z (R.more B.length T.length p) B (T ++ [c]) H := by
    refine ⟨fun a u h => s.sub a u h, hn, fun l' k c' h => ?_, fun l1 k1 l2 k2 h1 h2 e => ?_, fun a ob h => ?_⟩
    · rcases hat l' k c' h with ⟨rfl, rfl, rfl, e⟩ | ⟨h, e⟩
      · rw [e]
        exact ⟨hF, hc _ l⟩
      · rw [e]
        obtain ⟨h1, h2⟩ := s.cell l' k c' h
        exact ⟨h1, CellOk.mono l rfl h2⟩
    · have e : (if l1 = B.length ∧ k1 = T.length then p else R.φ l1 k1) = (if l2 = B.length ∧ k2 = T.length then p else R.φ l2 k2) := e
      rcases hlt l1 k1 h1 with a | a
      · rcases hlt l2 k2 h2 with b | b
        · exact ⟨a.1.trans b.1.symm, a.2.trans b.2.symm⟩
        · exfalso
          rw [if_pos a, if_neg (by rintro ⟨rfl, rfl⟩; rw [hT] at b; omega)] at e
          exact hold l2 k2 b e.symm
      · rw [if_neg (by rintro ⟨rfl, rfl⟩; rw [hT] at a; omega)] at e
        rcases hlt l2 k2 h2 with b | b
        · exfalso
          rw [if_pos b] at e
          exact hold l1 k1 a e
        · rw [if_neg (by rintro ⟨rfl, rfl⟩; rw [hT] at b; omega)] at e
          exact s.inj _ _ _ _ a b e
    · obtain ⟨l', k, ks, vs, h1, h2⟩ := s.lkC a ob h
      have hk : k < R.n l' := by rw [s.n]; exact getB_lt h2
      refine ⟨l', k, ks, vs, (l.φ l' k hk).trans h1, ?_⟩
      rw [getB_push, if_neg (by rintro ⟨rfl, rfl⟩; rw [hT] at hk; omega)]
      exact h2
  refine ⟨⟨e.le.trans l, e.keep, fun l' k h1 h2 => ?_, fun l' k h => sto.occ h, e.newF⟩, sto, l, ?_, ?_⟩
  · show H0 (if l' = B.length ∧ k = T.length then p else R.φ l' k) = none
    rcases hlt l' k h2 with a | a
    · rw [if_pos a]; exact hp
    · rw [if_neg (by rintro ⟨rfl, rfl⟩; rw [hT] at a; omega)]
      exact e.new l' k h1 a
  · show (if B.length = B.length ∧ T.length = T.length then p else _) = p
    rw [if_pos ⟨rfl, rfl⟩]
  · show T.length < if B.length = B.length then T.length + 1 else _
    rw [if_pos rfl]; omega
/-- a new object that nobody changes -/
theorem Sto.fzn (s : Sto Z R B T H) (o : HO) (hp : H p = none) : Ext L R { R with F := upd R.F p o } H (upd H p o) ∧ Sto Z { R with F := upd R.F p o } B T (upd H p o) := by
  obtain ⟨h1, h2, h3⟩ := Loose.new s hp o
  obtain ⟨h4, h5, _⟩ := h1.fz h2 h3 hp
  exact ⟨h4, h5⟩
end
/-- a cell that is written -/
theorem getB_set {B : List Layer} {T : Layer} {c : Cell} {j l k : Nat} (hj : j < T.length) : getB B (T.set j c) l k = if l = B.length ∧ k = j then some c else getB B T l k := by
  unfold getB
  by_cases h : l = B.length
  · simp only [if_pos h, h, true_and]
    by_cases hk : k = j
    · subst hk; simp only [if_true]; rw [List.getElem?_set_self hj]
    · rw [if_neg hk, List.getElem?_set_ne (fun e => hk e.symm)]
  · simp only [if_neg h, h, false_and, if_false]
theorem sz_set {B : List Layer} {T : Layer} {c : Cell} {j l : Nat} : sz B (T.set j c) l = sz B T l := by
  unfold sz
  split <;> simp
theorem setC_ok {C : Ctx} {T T' : Layer} {l k : Nat} {c : Cell} (h : setC C T l k c = some T') : l = C.B.length ∧ k < T.length ∧ T' = T.set k c := by
  unfold setC at h
  split at h
  · rename_i e
    split at h
    · rename_i e2; exact ⟨e, e2, (Option.some.inj h).symm⟩
    · cases h
  · cases h
theorem Sto.setc {R : Rn} {B : List Layer} {T : Layer} (s : Sto Z R B T H) {j : Nat} {o : HO} {c : Cell} (hj : j < T.length) (hh : ∀ ks vs, T[j]? ≠ some (.hold ks vs)) (hc : CellOk Z R (upd H (R.φ B.length j) o) (R.φ B.length j) c) :
    Ext B.length R R H (upd H (R.φ B.length j) o) ∧ Sto Z R B (T.set j c) (upd H (R.φ B.length j) o) := by
  have hj' : j < R.n B.length := by rw [s.n, sz_top]; exact hj
  have fp : R.F (R.φ B.length j) = none := by
    obtain ⟨c0, h0⟩ := getB_some (B := B) (T := T) (l := B.length) (k := j) (by rw [sz_top]; exact hj)
    exact (s.cell _ _ _ h0).1
  have sto : Sto Z R B (T.set j c) (upd H (R.φ B.length j) o) := by
    refine ⟨fun a u h => ?_, ?_, fun l' k c' h => ?_, s.inj, fun a ob h => ?_⟩
    · rw [upd_ne (ne_of_none h fp)]; exact s.sub a u h
    · rw [s.n]; funext l'; rw [sz_set]
    · rw [getB_set hj] at h
      by_cases e : l' = B.length ∧ k = j
      · rw [if_pos e] at h
        obtain ⟨rfl, rfl⟩ := e
        obtain rfl := Option.some.inj h
        exact ⟨fp, hc⟩
      · rw [if_neg e] at h
        obtain ⟨h1, h2⟩ := s.cell l' k c' h
        have hk : k < R.n l' := by rw [s.n]; exact getB_lt h
        exact ⟨h1, CellOk.mono (Le.refl R) (upd_ne fun z => e (s.inj _ _ _ _ hk hj' z)) h2⟩
    · obtain ⟨l', k, ks, vs, h1, h2⟩ := s.lkC a ob h
      refine ⟨l', k, ks, vs, h1, ?_⟩
      rw [getB_set hj, if_neg]
      · exact h2
      · rintro ⟨rfl, rfl⟩
        unfold getB at h2
        rw [if_pos rfl] at h2
        exact hh _ _ h2
  refine ⟨⟨Le.refl R, fun a u h hn => ?_, fun l' k h1 h2 => absurd h2 (Nat.not_lt.mpr h1), fun l' k h => sto.occ h, fun a u h1 h2 => by rw [h1] at h2; cases h2⟩, sto⟩
  rw [upd_ne (hn _ hj').symm]; exact h

/-! ### lists joined, repeated (also a list that is known to its object) -/
theorem Rd.lst {pins : List (Addr × Obj)} {σ : L2.St} {s : Shared} {l : Addr} {xs : List V} (I : Inv X pins σ H s) (h : Rd H l (.lst xs)) : xs.length ≤ sizeLine ∧ ∃ (its : List Value) (n : Nat), Vals xs its ∧ xs.length = its.length ∧ s.heap.get? l = some { cls := .type "list", data := .seq its.toArray n } := by
  obtain ⟨z, its, n, r, e⟩ := h.ok I.hok
  exact ⟨z, its, n, r, r.length, e⟩
def rCatZ : R2 := fun x y H Q => ∃ l b xs zs, x = .ref l ∧ y = .ref b ∧ Rd H l (.lst xs) ∧ Rd H b (.lst zs) ∧ xs.length + zs.length ≤ sizeLine ∧ ∀ p, H p = none → Q (.ref p) (upd H p (.lst (xs ++ zs)))
theorem op_catZ : OpR X (binaryOp .Add) rCatZ := by
  intro pins s σ H x y v u Q I rx ry h
  obtain ⟨l, b, xs, zs, rfl, rfl, hH, hB, hz, q⟩ := h
  cases rx
  cases ry
  obtain ⟨z, its, n, r, hl, e⟩ := Rd.lst I hH
  obtain ⟨z2, its2, n2, r2, hl2, e2⟩ := Rd.lst I hB
  refine PySem.P.add_list e e2 ?_ (by rw [List.size_toArray, List.size_toArray]; omega)
  have ea : its.toArray ++ its2.toArray = (its ++ its2).toArray := by simp
  rw [ea]
  exact ⟨.ref _, _, I.lnew (t' := s.toks) (r.append r2) (by rw [List.length_append]; omega), rfl, q _ I.fresh⟩
end
end Mini
end
section
set_option linter.all false
set_option maxRecDepth 100000
set_option maxHeartbeats 2000000
namespace Mini
open PySem PySem.Spec PyProof.Rows L2

/-! ### plain data -/
mutual
def toPD : MV → PyData
  | .non => .none
  | .bl b => .bool b
  | .int i => .int i
  | .str s => .str ⟨s.toArray⟩
  | .tup xs => .tuple (toPDs xs)
  | .lst xs => .list (toPDs xs)
  | _ => .none
def toPDs : List MV → List PyData
  | [] => []
  | x :: xs => toPD x :: toPDs xs
end
theorem strArr_inj {x y : List Nat} : ((⟨x.toArray⟩ : Str) == ⟨y.toArray⟩) = (x == y) := by
  by_cases h : x = y
  · subst h; simp
  · have h2 : ¬ ((⟨x.toArray⟩ : Str) = ⟨y.toArray⟩) := fun e => h (by
      have := congrArg (fun z : Str => z.cps.toList) e
      simpa using this)
    rw [beq_eq_false_iff_ne.mpr h2, beq_eq_false_iff_ne.mpr h]
theorem strArr_dec {x y : List Nat} : decide ((⟨x.toArray⟩ : Str) = ⟨y.toArray⟩) = (x == y) := by
  rw [← strArr_inj]
  by_cases h : ((⟨x.toArray⟩ : Str) = ⟨y.toArray⟩)
  · rw [decide_eq_true h, beq_iff_eq.mpr h]
  · rw [decide_eq_false h, beq_eq_false_iff_ne.mpr h]
mutual
theorem eqv_pd : ∀ (n : Nat) (x y : MV), dat n x = true → dat n y = true → eqv x y = PyData.eqv (toPD x) (toPD y)
  | n, .non, y, _, h => by cases y <;> first | (simp [eqv, toPD, PyData.eqv]; done) | (cases n <;> simp [dat] at h)
  | n, .bl a, y, _, h => by cases y <;> first | (simp [eqv, toPD, PyData.eqv, b2i]; done) | (cases n <;> simp [dat] at h)
  | n, .int a, y, _, h => by cases y <;> first | (simp [eqv, toPD, PyData.eqv, b2i]; done) | (cases n <;> simp [dat] at h)
  | n, .str a, y, _, h => by cases y <;> first | (simp [eqv, toPD, PyData.eqv, strArr_inj]; done) | (cases n <;> simp [dat] at h)
  | 0, .tup _, _, h, _ => by simp [dat] at h
  | 0, .lst _, _, h, _ => by simp [dat] at h
  | n + 1, .tup xs, y, h, h' => by
    cases y with
    | tup ys =>
      simp only [dat] at h h'
      simp only [eqv, toPD, PyData.eqv]
      exact eqvs_pd n xs ys h h'
    | undef => simp [dat] at h'
    | dct _ _ => simp [dat] at h'
    | ins _ _ => simp [dat] at h'
    | ref _ _ => simp [dat] at h'
    | _ => simp [eqv, toPD, PyData.eqv]
  | n + 1, .lst xs, y, h, h' => by
    cases y with
    | lst ys =>
      simp only [dat] at h h'
      simp only [eqv, toPD, PyData.eqv]
      exact eqvs_pd n xs ys h h'
    | undef => simp [dat] at h'
    | dct _ _ => simp [dat] at h'
    | ins _ _ => simp [dat] at h'
    | ref _ _ => simp [dat] at h'
    | _ => simp [eqv, toPD, PyData.eqv]
  | n, .undef, _, h, _ => by cases n <;> simp [dat] at h
  | n, .dct _ _, _, h, _ => by cases n <;> simp [dat] at h
  | n, .ins _ _, _, h, _ => by cases n <;> simp [dat] at h
  | n, .ref _ _, _, h, _ => by cases n <;> simp [dat] at h
theorem eqvs_pd : ∀ (n : Nat) (xs ys : List MV), xs.all (dat n) = true → ys.all (dat n) = true → eqvs xs ys = PyData.eqvAll (toPDs xs) (toPDs ys)
  | n, [], [], _, _ => by simp [eqvs, toPDs, PyData.eqvAll]
  | n, [], _ :: _, _, _ => by simp [eqvs, toPDs, PyData.eqvAll]
  | n, _ :: _, [], _, _ => by simp [eqvs, toPDs, PyData.eqvAll]
  | n, x :: xs, y :: ys, h, h' => by
    simp only [List.all_cons, Bool.and_eq_true] at h h'
    simp only [eqvs, toPDs, PyData.eqvAll]
    rw [eqv_pd n x y h.1 h'.1, eqvs_pd n xs ys h.2 h'.2]
end
mutual
theorem canLay_pd : ∀ (n : Nat) (x : MV), dat n x = true → (toPD x).canLay0 = true
  | n, .non, _ => by simp [toPD, PyData.canLay0]
  | n, .bl _, _ => by simp [toPD, PyData.canLay0]
  | n, .int _, _ => by simp [toPD, PyData.canLay0]
  | n, .str s, h => by
    simp only [toPD, PyData.canLay0, PyData.strOk]
    have h : s.all (fun c => decide (c < 1114112)) = true := by cases n <;> simpa only [dat] using h
    simpa using h
  | 0, .tup _, h => by simp [dat] at h
  | 0, .lst _, h => by simp [dat] at h
  | n + 1, .tup xs, h => by
    simp only [dat] at h
    simp only [toPD, PyData.canLay0]
    exact canLays_pd n xs h
  | n + 1, .lst xs, h => by
    simp only [dat] at h
    simp only [toPD, PyData.canLay0]
    exact canLays_pd n xs h
  | n, .undef, h => by cases n <;> simp [dat] at h
  | n, .dct _ _, h => by cases n <;> simp [dat] at h
  | n, .ins _ _, h => by cases n <;> simp [dat] at h
  | n, .ref _ _, h => by cases n <;> simp [dat] at h
theorem canLays_pd : ∀ (n : Nat) (xs : List MV), xs.all (dat n) = true → PyData.canLayAll0 (toPDs xs) = true
  | n, [], _ => by simp [toPDs, PyData.canLayAll0]
  | n, x :: xs, h => by
    simp only [List.all_cons, Bool.and_eq_true] at h
    simp only [toPDs, PyData.canLayAll0, Bool.and_eq_true]
    exact ⟨canLay_pd n x h.1, canLays_pd n xs h.2⟩
end
mutual
theorem depth_pd : ∀ (n : Nat) (x : MV), dat n x = true → (toPD x).depth ≤ n
  | n, .non, _ => by simp [toPD, PyData.depth]
  | n, .bl _, _ => by simp [toPD, PyData.depth]
  | n, .int _, _ => by simp [toPD, PyData.depth]
  | n, .str s, h => by simp [toPD, PyData.depth]
  | 0, .tup _, h => by simp [dat] at h
  | 0, .lst _, h => by simp [dat] at h
  | n + 1, .tup xs, h => by
    simp only [dat] at h
    simp only [toPD, PyData.depth]
    have := depths_pd n xs h
    omega
  | n + 1, .lst xs, h => by
    simp only [dat] at h
    simp only [toPD, PyData.depth]
    have := depths_pd n xs h
    omega
  | n, .undef, h => by cases n <;> simp [dat] at h
  | n, .dct _ _, h => by cases n <;> simp [dat] at h
  | n, .ins _ _, h => by cases n <;> simp [dat] at h
  | n, .ref _ _, h => by cases n <;> simp [dat] at h
theorem depths_pd : ∀ (n : Nat) (xs : List MV), xs.all (dat n) = true → PyData.depthAll (toPDs xs) ≤ n
  | n, [], _ => by simp [toPDs, PyData.depthAll]
  | n, x :: xs, h => by
    simp only [List.all_cons, Bool.and_eq_true] at h
    simp only [toPDs, PyData.depthAll]
    have h1 := depth_pd n x h.1
    have h2 := depths_pd n xs h.2
    omega
end
theorem shaped_pd {x : MV} (h : x.data = true) : SeqAt.shaped (toPD x) = true := by
  unfold SeqAt.shaped
  rw [Bool.and_eq_true]
  exact ⟨canLay_pd 40 x h, decide_eq_true (Nat.le_trans (depth_pd 40 x h) (by decide))⟩
theorem eqv_data {x y : MV} (h : x.data = true) (h' : y.data = true) : eqv x y = PyData.eqv (toPD x) (toPD y) := eqv_pd 40 x y h h'

section
variable {X : Cx} {Z : Zt} {C : Ctx} {σ : L2.St} {H : Hp} {Q : VK} {R : Rn} {T : Layer}
mutual
theorem Dp_of (st : Sto Z R C.B T H) : ∀ (n : Nat) (x : MV) (v : V), dat n x = true → Rp Z R x v → Dp Z.K H v (toPD x)
  | n, .non, _, _, p => by simp only [Rp] at p; subst p; simp only [toPD]; exact .non
  | n, .bl _, _, _, p => by simp only [Rp] at p; subst p; simp only [toPD]; exact .bl _
  | n, .int _, _, _, p => by simp only [Rp] at p; subst p; simp only [toPD]; exact .int _
  | n, .str _, _, _, p => by simp only [Rp] at p; subst p; simp only [toPD]; exact .str _
  | 0, .tup _, _, h, _ => by simp [dat] at h
  | 0, .lst _, _, h, _ => by simp [dat] at h
  | n + 1, .tup xs, _, h, p => by
    simp only [dat] at h
    simp only [Rp] at p
    obtain ⟨a, vs, rfl, h2, h3⟩ := p
    simp only [toPD]
    exact .tup (st.sqT h2) (Dps_of st n xs vs h h3)
  | n + 1, .lst xs, _, h, p => by
    simp only [dat] at h
    simp only [Rp] at p
    obtain ⟨a, vs, rfl, h2, h3⟩ := p
    simp only [toPD]
    exact .lst (.inl (st.rd h2)) (Dps_of st n xs vs h h3)
  | n, .undef, _, h, _ => by cases n <;> simp [dat] at h
  | n, .dct _ _, _, h, _ => by cases n <;> simp [dat] at h
  | n, .ins _ _, _, h, _ => by cases n <;> simp [dat] at h
  | n, .ref _ _, _, h, _ => by cases n <;> simp [dat] at h
theorem Dps_of (st : Sto Z R C.B T H) : ∀ (n : Nat) (xs : List MV) (vs : List V), xs.all (dat n) = true → Rps Z R xs vs → DpAll Z.K H vs (toPDs xs)
  | n, [], _, _, p => by simp only [Rps] at p; subst p; simp only [toPDs]; exact .nil
  | n, x :: xs, _, h, p => by
    simp only [List.all_cons, Bool.and_eq_true] at h
    simp only [Rps] at p
    obtain ⟨v, r, rfl, h2, h3⟩ := p
    simp only [toPDs]
    exact .cons (Dp_of st n x v h.1 h2) (Dps_of st n xs r h.2 h3)
end
theorem Dp_data (st : Sto Z R C.B T H) {x : MV} {v : V} (h : x.data = true) (p : Rp Z R x v) : Dp Z.K H v (toPD x) := Dp_of st 40 x v h p
/-- with the references resolved -/
theorem Dp_res (st : Sto Z R C.B T H) : ∀ (m n : Nat) (x : MV) (v : V), dat n (resolve C T m x) = true → Rp Z R x v → Dp Z.K H v (toPD (resolve C T m x)) := by
  intro m
  induction m with
  | zero => intro n x v h _; cases n <;> simp [resolve, dat] at h
  | succ m ih =>
    have ihs : ∀ (n : Nat) (xs : List MV) (vs : List V), (xs.map (resolve C T m)).all (dat n) = true → Rps Z R xs vs → DpAll Z.K H vs (toPDs (xs.map (resolve C T m))) := by
      intro n xs
      induction xs with
      | nil => intro vs _ p; simp only [Rps] at p; subst p; simp only [List.map_nil, toPDs]; exact .nil
      | cons x xs ih2 =>
        intro vs h p
        simp only [List.map_cons, List.all_cons, Bool.and_eq_true] at h
        simp only [Rps] at p
        obtain ⟨v, r, rfl, h2, h3⟩ := p
        simp only [List.map_cons, toPDs]
        exact .cons (ih n x v h.1 h2) (ih2 r h.2 h3)
    intro n x v h p
    cases x with
    | ref l k =>
      simp only [Rp] at p
      simp only [resolve] at h ⊢
      split at h
      · rename_i xs hc
        obtain ⟨_, vs, h1, h2⟩ := st.cellAt hc
        cases n with
        | zero => simp [dat] at h
        | succ n =>
          simp only [dat] at h
          rw [p.1]
          simp only [toPD]
          exact .lst (.inl (.inl h1)) (ihs n xs vs h h2)
      · cases n <;> simp [dat] at h
      · cases n <;> simp [dat] at h
    | tup xs =>
      simp only [resolve] at h ⊢
      cases n with
      | zero => simp [dat] at h
      | succ n =>
        simp only [dat] at h
        simp only [Rp] at p
        obtain ⟨a, vs, rfl, h2, h3⟩ := p
        simp only [toPD]
        exact .tup (st.sqT h2) (ihs n xs vs h h3)
    | lst xs =>
      simp only [resolve] at h ⊢
      cases n with
      | zero => simp [dat] at h
      | succ n =>
        simp only [dat] at h
        simp only [Rp] at p
        obtain ⟨a, vs, rfl, h2, h3⟩ := p
        simp only [toPD]
        exact .lst (.inl (st.rd h2)) (ihs n xs vs h h3)
    | dct _ _ => simp only [resolve] at h; cases n <;> simp [dat] at h
    | _ => simp only [resolve] at h ⊢; exact Dp_of st n _ _ h p
theorem eqM_ok (st : Sto Z R C.B T H) {x y : MV} {vx vy : V} {b : Bool} (h : eqM C T x y = some b) (px : Rp Z R x vx) (py : Rp Z R y vy) :
    ∃ d e, Dp Z.K H vx d ∧ Dp Z.K H vy e ∧ SeqAt.shaped d = true ∧ SeqAt.shaped e = true ∧ b = PyData.eqv d e := by
  unfold eqM at h
  split at h
  · rename_i hd
    simp only [Bool.and_eq_true] at hd
    cases h
    exact ⟨_, _, Dp_data st hd.1 px, Dp_data st hd.2 py, shaped_pd hd.1, shaped_pd hd.2, eqv_data hd.1 hd.2⟩
  · simp only at h
    split at h
    · rename_i hd
      simp only [Bool.and_eq_true] at hd
      cases h
      exact ⟨_, _, Dp_res st _ 40 _ _ hd.1 px, Dp_res st _ 40 _ _ hd.2 py, shaped_pd hd.1, shaped_pd hd.2, eqv_data hd.1 hd.2⟩
    · cases h
end
end Mini
end
section
set_option linter.all false
set_option maxRecDepth 100000
set_option maxHeartbeats 2000000
namespace Mini
open PySem PySem.Spec PyProof.Rows L2

/-! ### keys -/
mutual
theorem eqv_key : ∀ (x y : MV) (k k' : NestedKey), keyOf x = some k → keyOf y = some k' → eqv x y = NestedKey.beq k k'
  | .non, y, k, k', h, h' => by
    simp only [keyOf, Option.some.injEq] at h; subst h
    cases y <;> simp only [keyOf, Option.some.injEq, Option.map_eq_some_iff] at h' <;> first | (subst h'; simp [eqv, NestedKey.beq]; done) | (obtain ⟨_, _, rfl⟩ := h'; simp [eqv, NestedKey.beq]; done) | cases h'
  | .bl b, y, k, k', h, h' => by
    simp only [keyOf, Option.some.injEq] at h; subst h
    cases y <;> simp only [keyOf, Option.some.injEq, Option.map_eq_some_iff] at h' <;> first
      | (subst h'; simp [eqv, NestedKey.beq]; done)
      | (subst h'; rename_i c; cases b <;> cases c <;> rfl)
      | (subst h'; simp [eqv, NestedKey.beq, beq_eq_decide]; done)
      | (obtain ⟨_, _, rfl⟩ := h'; simp [eqv, NestedKey.beq]; done) | cases h'
  | .int i, y, k, k', h, h' => by
    simp only [keyOf, Option.some.injEq] at h; subst h
    cases y <;> simp only [keyOf, Option.some.injEq, Option.map_eq_some_iff] at h' <;> first
      | (subst h'; simp only [eqv, NestedKey.beq]; done)
      | (subst h'; simp only [eqv, NestedKey.beq, Int.beq_eq_decide_eq]; done)
      | (subst h'; simp only [eqv, NestedKey.beq]; exact Bool.beq_eq_decide_eq _ _)
      | (obtain ⟨_, _, rfl⟩ := h'; simp [eqv, NestedKey.beq]; done) | cases h'
  | .str s, y, k, k', h, h' => by
    simp only [keyOf, Option.some.injEq] at h; subst h
    cases y <;> simp only [keyOf, Option.some.injEq, Option.map_eq_some_iff] at h' <;> first
      | (subst h'; simp [eqv, NestedKey.beq]; done)
      | (subst h'; simp only [eqv, NestedKey.beq]; exact strArr_dec.symm)
      | (obtain ⟨_, _, rfl⟩ := h'; simp [eqv, NestedKey.beq]; done) | cases h'
  | .tup xs, y, k, k', h, h' => by
    simp only [keyOf, Option.map_eq_some_iff] at h
    obtain ⟨ks, h, rfl⟩ := h
    cases y with
    | tup ys =>
      simp only [keyOf, Option.map_eq_some_iff] at h'
      obtain ⟨ks', h', rfl⟩ := h'
      simp only [eqv, NestedKey.beq]
      exact eqvs_key xs ys ks ks' h h'
    | _ => simp only [keyOf, Option.some.injEq] at h' <;> first | (subst h'; simp [eqv, NestedKey.beq]; done) | cases h'
  | .undef, _, _, _, h, _ => by simp [keyOf] at h
  | .lst _, _, _, _, h, _ => by simp [keyOf] at h
  | .dct _ _, _, _, _, h, _ => by simp [keyOf] at h
  | .ins _ _, _, _, _, h, _ => by simp [keyOf] at h
  | .ref _ _, _, _, _, h, _ => by simp [keyOf] at h
theorem eqvs_key : ∀ (xs ys : List MV) (ks ks' : List NestedKey), keysOf xs = some ks → keysOf ys = some ks' → eqvs xs ys = NestedKey.beqAll ks ks'
  | [], [], ks, ks', h, h' => by simp only [keysOf, Option.some.injEq] at h h'; subst h h'; simp [eqvs, NestedKey.beqAll]
  | [], y :: ys, ks, ks', h, h' => by
    simp only [keysOf, Option.some.injEq] at h h'; subst h
    split at h' <;> first | (cases h'; simp [eqvs, NestedKey.beqAll]; done) | cases h'
  | x :: xs, [], ks, ks', h, h' => by
    simp only [keysOf, Option.some.injEq] at h h'; subst h'
    split at h <;> first | (cases h; simp [eqvs, NestedKey.beqAll]; done) | cases h
  | x :: xs, y :: ys, ks, ks', h, h' => by
    simp only [keysOf] at h h'
    split at h
    · rename_i k kr e1 e2
      split at h'
      · rename_i k' kr' e1' e2'
        cases h; cases h'
        simp only [eqvs, NestedKey.beqAll]
        rw [eqv_key x y k k' e1 e1', eqvs_key xs ys kr kr' e2 e2']
      · cases h'
    · cases h
end
theorem eqv_keyD {x y : MV} {k k' : NestedKey} (h : keyOf x = some k) (h' : keyOf y = some k') : eqv x y = decide (k = k') := by
  rw [eqv_key x y k k' h h', NestedKey.decide_eq]
theorem keysOf_cons {x : MV} {xs : List MV} {ks : List NestedKey} (h : keysOf (x :: xs) = some ks) : ∃ k r, ks = k :: r ∧ keyOf x = some k ∧ keysOf xs = some r := by
  simp only [keysOf] at h
  split at h
  · rename_i k kr e1 e2; cases h; exact ⟨k, kr, rfl, e1, e2⟩
  · cases h
theorem keysOf_at : ∀ {ks : List MV} {nks : List NestedKey} {i : Nat} {x : MV}, keysOf ks = some nks → ks[i]? = some x → ∃ k, nks[i]? = some k ∧ keyOf x = some k
  | [], _, _, _, _, h => by simp at h
  | y :: ys, _, i, x, h, hi => by
    obtain ⟨k, r, rfl, e1, e2⟩ := keysOf_cons h
    cases i with
    | zero => simp at hi; subst hi; exact ⟨k, rfl, e1⟩
    | succ i => simpa using keysOf_at (i := i) e2 (by simpa using hi)
theorem keysOf_of : ∀ {ks : List MV} {nks : List NestedKey} {i : Nat} {k : NestedKey}, keysOf ks = some nks → nks[i]? = some k → ∃ x, ks[i]? = some x ∧ keyOf x = some k
  | [], _, _, _, h, hi => by simp only [keysOf, Option.some.injEq] at h; subst h; simp at hi
  | y :: ys, _, i, k, h, hi => by
    obtain ⟨k0, r, rfl, e1, e2⟩ := keysOf_cons h
    cases i with
    | zero => simp at hi; subst hi; exact ⟨y, rfl, e1⟩
    | succ i => simpa using keysOf_of (i := i) e2 (by simpa using hi)
theorem keysOf_len : ∀ {xs : List MV} {ks : List NestedKey}, keysOf xs = some ks → ks.length = xs.length
  | [], _, h => by simp only [keysOf, Option.some.injEq] at h; subst h; rfl
  | x :: xs, _, h => by
    obtain ⟨k, r, rfl, _, h2⟩ := keysOf_cons h
    simp [keysOf_len h2]

section
variable {X : Cx} {Z : Zt} {C : Ctx} {pins : List (Addr × Obj)} {σ : L2.St} {H : Hp} {s : Shared} {R : Rn} {T : Layer}
mutual
/-- what a key's value is in the heap -/
theorem nk_is (I : Inv X pins σ H s) (hK : X.K = Z.K) (st : Sto Z R C.B T H) : ∀ (x : MV) (v : V) (u : Value) (k : NestedKey), keyOf x = some k → Rp Z R x v → RelV v u → NestedIs s.heap k u
  | .non, _, _, _, h, p, r => by
    simp only [keyOf, Option.some.injEq] at h; subst h
    simp only [Rp] at p; subst p; cases r; exact .none
  | .bl b, _, _, _, h, p, r => by
    simp only [keyOf, Option.some.injEq] at h; subst h
    simp only [Rp] at p; subst p; cases r; exact .bool rfl
  | .int i, _, _, _, h, p, r => by
    simp only [keyOf, Option.some.injEq] at h; subst h
    simp only [Rp] at p; subst p; obtain ⟨t, rfl⟩ := r; exact .int i t
  | .str z, _, _, _, h, p, r => by
    simp only [keyOf, Option.some.injEq] at h; subst h
    simp only [Rp] at p; subst p; obtain ⟨t, rfl⟩ := r; exact .text _ t
  | .tup xs, _, _, _, h, p, r => by
    simp only [keyOf, Option.map_eq_some_iff] at h
    obtain ⟨ks, h, rfl⟩ := h
    simp only [Rp] at p
    obtain ⟨a, vs, rfl, h2, h3⟩ := p
    cases r
    obtain ⟨its, rv, pt, _⟩ := I.tuple (hK ▸ st.sqT h2)
    obtain ⟨o, ho, hc, n, hd⟩ := pt
    exact .tup ho hc hd (nks_is I hK st xs vs its ks h h3 rv)
  | .undef, _, _, _, h, _, _ => by simp [keyOf] at h
  | .lst _, _, _, _, h, _, _ => by simp [keyOf] at h
  | .dct _ _, _, _, _, h, _, _ => by simp [keyOf] at h
  | .ins _ _, _, _, _, h, _, _ => by simp [keyOf] at h
  | .ref _ _, _, _, _, h, _, _ => by simp [keyOf] at h
theorem nks_is (I : Inv X pins σ H s) (hK : X.K = Z.K) (st : Sto Z R C.B T H) : ∀ (xs : List MV) (vs : List V) (us : List Value) (ks : List NestedKey), keysOf xs = some ks → Rps Z R xs vs → Vals vs us → NestedAll s.heap ks us
  | [], _, _, _, h, p, r => by
    simp only [keysOf, Option.some.injEq] at h; subst h
    simp only [Rps] at p; subst p; cases r; exact .nil
  | x :: xs, _, _, _, h, p, r => by
    obtain ⟨k, kr, rfl, h1, h2⟩ := keysOf_cons h
    simp only [Rps] at p
    obtain ⟨v, vr, rfl, p1, p2⟩ := p
    cases r with
    | cons r1 r2 => exact .cons (nk_is I hK st x v _ k h1 p1 r1) (nks_is I hK st xs vr _ kr h2 p2 r2)
end

/-! ### a dict's entries -/
theorem dctOf_ok (st : Sto Z R C.B T H) {x : MV} {v : V} {ks vs : List MV} (p : Rp Z R x v) (h : dctOf C T x = some (ks, vs)) :
    ∃ a o kv vv, v = .ref a ∧ H a = some (AtO a o) ∧ Rps Z R ks kv ∧ Rps Z R vs vv ∧ DctO Z a o ks vs kv vv := by
  cases x with
  | dct ks' vs' =>
    simp only [dctOf, Option.some.injEq, Prod.mk.injEq] at h
    obtain ⟨rfl, rfl⟩ := h
    simp only [Rp] at p
    obtain ⟨a, o, kv, vv, h1, h2, h3, h4, h5⟩ := p
    exact ⟨a, o, kv, vv, h1, st.sub _ _ h2, h3, h4, h5⟩
  | ref l k =>
    simp only [Rp] at p
    simp only [dctOf] at h
    split at h
    · rename_i ks' vs' hc
      simp only [Option.some.injEq, Prod.mk.injEq] at h
      obtain ⟨rfl, rfl⟩ := h
      obtain ⟨_, o, kv, vv, h1, h2, h3, h4⟩ := st.cellAt hc
      exact ⟨_, o, kv, vv, p.1, h1, h2, h3, h4⟩
    · rename_i ks' vs' hc
      simp only [Option.some.injEq, Prod.mk.injEq] at h
      obtain ⟨rfl, rfl⟩ := h
      obtain ⟨_, o, kv, vv, _, h1, h2, h3, h4⟩ := st.cellAt hc
      exact ⟨_, o, kv, vv, p.1, h1, h2, h3, h4⟩
    · cases h
  | _ => simp only [dctOf] at h; cases h
theorem lookT {x : MV} {k : NestedKey} (hk : keyOf x = some k) : ∀ (xs : List (NestedKey × Addr × Value)) (ks vs : List MV) (vv : List V), keysOf ks = some (xs.map (·.1)) → Vals vv (xs.map (·.2.2)) → Rps Z R vs vv →
    match lookK x ks vs with
    | none => atKey xs k = none
    | some w => ∃ p vw, atKey xs k = some p ∧ RelV vw p.2 ∧ Rp Z R w vw
  | [], ks, vs, vv, h1, h2, h3 => by
    have e : ks = [] := by
      cases ks with
      | nil => rfl
      | cons a b => obtain ⟨_, _, e, _⟩ := keysOf_cons h1; cases e
    subst e
    simp only [lookK]
    rfl
  | (k0, b, u) :: xs, ks, vs, vv, h1, h2, h3 => by
    cases ks with
    | nil => simp [keysOf] at h1
    | cons y ks =>
      obtain ⟨k1, r, e, h4, h5⟩ := keysOf_cons h1
      simp only [List.map_cons, List.cons.injEq] at e
      obtain ⟨rfl, rfl⟩ := e
      cases h2 with
      | cons r1 r2 =>
        rename_i v0 vr
        cases vs with
        | nil => simp only [Rps] at h3; cases h3
        | cons w ws =>
          simp only [Rps] at h3
          obtain ⟨v1, vr1, e, p1, p2⟩ := h3
          simp only [List.cons.injEq] at e
          obtain ⟨rfl, rfl⟩ := e
          simp only [lookK]
          rw [eqv_keyD h4 hk]
          by_cases hh : k0 = k
          · subst hh
            rw [if_pos (decide_eq_true rfl)]
            exact ⟨(b, u), v0, by simp [atKey], r1, p1⟩
          · rw [if_neg (by rw [decide_eq_false hh]; exact Bool.false_ne_true)]
            have ih := lookT hk xs ks ws vr h5 r2 p2
            have ea : atKey ((k0, b, u) :: xs) k = atKey xs k := by
              unfold atKey
              rw [List.find?_cons_of_neg (by simpa using hh)]
            rw [ea]
            exact ih
theorem lookL {x : MV} {k : Leaf} (hk : keyOf x = some k.key) : ∀ (xs : List (Leaf × Value)) (ks vs : List MV) (vv : List V), keysOf ks = some (xs.map (·.1.key)) → Vals vv (xs.map (·.2)) → Rps Z R vs vv →
    match lookK x ks vs with
    | none => valueAt xs k = none
    | some w => ∃ p vw, valueAt xs k = some p ∧ RelV vw p ∧ Rp Z R w vw
  | [], ks, vs, vv, h1, h2, h3 => by
    have e : ks = [] := by
      cases ks with
      | nil => rfl
      | cons a b => obtain ⟨_, _, e, _⟩ := keysOf_cons h1; cases e
    subst e
    simp only [lookK]
    rfl
  | (k0, u) :: xs, ks, vs, vv, h1, h2, h3 => by
    cases ks with
    | nil => simp [keysOf] at h1
    | cons y ks =>
      obtain ⟨k1, r, e, h4, h5⟩ := keysOf_cons h1
      simp only [List.map_cons, List.cons.injEq] at e
      obtain ⟨rfl, rfl⟩ := e
      cases h2 with
      | cons r1 r2 =>
        rename_i v0 vr
        cases vs with
        | nil => simp only [Rps] at h3; cases h3
        | cons w ws =>
          simp only [Rps] at h3
          obtain ⟨v1, vr1, e, p1, p2⟩ := h3
          simp only [List.cons.injEq] at e
          obtain ⟨rfl, rfl⟩ := e
          simp only [lookK]
          rw [eqv_keyD h4 hk]
          by_cases hh : k0 = k
          · subst hh
            rw [if_pos (decide_eq_true rfl)]
            exact ⟨u, v0, by simp [valueAt], r1, p1⟩
          · rw [if_neg (by rw [decide_eq_false (fun e => hh (Leaf.key_inj e))]; exact Bool.false_ne_true)]
            have ih := lookL hk xs ks ws vr h5 r2 p2
            have ea : valueAt ((k0, u) :: xs) k = valueAt xs k := by
              unfold valueAt
              rw [List.find?_cons_of_neg (by simpa using hh)]
            rw [ea]
            exact ih
/-- a key that is no tuple, as a leaf -/
theorem leaf_of {x : MV} {v : V} {u : Value} {k : NestedKey} (h : keyOf x = some k) (ht : isTup x = false) (p : Rp Z R x v) (r : RelV v u) : ∃ l : Leaf, k = l.key ∧ (leafKind Z.prog Z.w).is l u = true := by
  cases x with
  | non => simp only [keyOf, Option.some.injEq] at h; subst h; simp only [Rp] at p; subst p; cases r; exact ⟨.none, rfl, rfl⟩
  | bl b => simp only [keyOf, Option.some.injEq] at h; subst h; simp only [Rp] at p; subst p; cases r; exact ⟨.num _, rfl, by cases b <;> rfl⟩
  | int i => simp only [keyOf, Option.some.injEq] at h; subst h; simp only [Rp] at p; subst p; obtain ⟨t, rfl⟩ := r; exact ⟨.num i, rfl, by show decide _ = true; simp⟩
  | str z => simp only [keyOf, Option.some.injEq] at h; subst h; simp only [Rp] at p; subst p; obtain ⟨t, rfl⟩ := r; exact ⟨.text _, rfl, by simp [leafKind, Leaf.isOf, Value.isStrOf]⟩
  | tup _ => simp [isTup] at ht
  | _ => simp [keyOf] at h

mutual
theorem hsh_key : ∀ (n : Nat) (x : MV), hsh n x = true → ∃ k, keyOf x = some k ∧ k.depth ≤ n
  | n, .non, _ => ⟨.none, by simp [keyOf], by simp [NestedKey.depth]⟩
  | n, .bl b, _ => ⟨.num (b2i b), by simp [keyOf], by simp [NestedKey.depth]⟩
  | n, .int i, _ => ⟨.num i, by simp [keyOf], by simp [NestedKey.depth]⟩
  | n, .str z, _ => ⟨.text ⟨z.toArray⟩, by simp [keyOf], by simp [NestedKey.depth]⟩
  | 0, .tup _, h => by simp [hsh] at h
  | n + 1, .tup xs, h => by
    simp only [hsh] at h
    obtain ⟨ks, h1, h2⟩ := hshs_key n xs h
    exact ⟨.tup ks, by simp [keyOf, h1], by simp only [NestedKey.depth]; omega⟩
  | n, .undef, h => by cases n <;> simp [hsh] at h
  | n, .lst _, h => by cases n <;> simp [hsh] at h
  | n, .dct _ _, h => by cases n <;> simp [hsh] at h
  | n, .ins _ _, h => by cases n <;> simp [hsh] at h
  | n, .ref _ _, h => by cases n <;> simp [hsh] at h
theorem hshs_key : ∀ (n : Nat) (xs : List MV), xs.all (hsh n) = true → ∃ ks, keysOf xs = some ks ∧ NestedKey.depthAll ks ≤ n
  | n, [], _ => ⟨[], by simp [keysOf], by simp [NestedKey.depthAll]⟩
  | n, x :: xs, h => by
    simp only [List.all_cons, Bool.and_eq_true] at h
    obtain ⟨k, h1, h2⟩ := hsh_key n x h.1
    obtain ⟨ks, h3, h4⟩ := hshs_key n xs h.2
    exact ⟨k :: ks, by simp [keysOf, h1, h3], by simp only [NestedKey.depthAll]; omega⟩
end
theorem keysOf_nil {ks : List MV} (h : keysOf ks = some []) : ks = [] := by
  have := keysOf_len h
  cases ks with
  | nil => rfl
  | cons _ _ => cases this
theorem DctT.nilL {o : Obj} {kv vv : List V} (h : DctT Z o [] kv vv) : DctL Z o [] vv := by
  obtain ⟨es, ep, xs, h1, h2, h3, h4, h5, h6, h7⟩ := h
  simp only [keysOf, Option.some.injEq] at h4
  have e : xs = [] := by cases xs with | nil => rfl | cons _ _ => cases h4
  subst e
  have e2 : es = #[] := by simpa using h2
  subst e2 h5
  refine ⟨#[], ep, [], h1, fun e he => by simp at he, .nil, List.nodup_nil, by simp [keysOf], h6⟩
theorem DctL.nilT {o : Obj} {vv : List V} (h : DctL Z o [] vv) : DctT Z o [] [] vv := by
  obtain ⟨es, ep, xs, h1, h2, h3, h4, h5, h7⟩ := h
  simp only [keysOf, Option.some.injEq] at h5
  have e : xs = [] := by cases xs with | nil => rfl | cons _ _ => cases h5
  subst e
  have e2 : es = #[] := by
    have := h3.length
    simpa using this
  subst e2
  exact ⟨#[], ep, [], h1, rfl, List.nodup_nil, by simp [keysOf], rfl, h7, fun x hx => by simp at hx⟩
/-- keys of a dict of tuples are tuples -/
theorem DctT.tups {o : Obj} {ks : List MV} {kv vv : List V} (h : DctT Z o ks kv vv) (r : Rps Z R ks kv) : ks.all isTup = true := by
  obtain ⟨es, ep, xs, h1, h2, h3, h4, h5, h6, h7⟩ := h
  rw [List.all_eq_true]
  intro x hx
  obtain ⟨i, hi⟩ := List.getElem?_of_mem hx
  obtain ⟨v, h8, h9⟩ := r.get hi
  subst h5
  rw [List.getElem?_map] at h8
  obtain ⟨p, _, rfl⟩ := Option.map_eq_some_iff.mp h8
  obtain ⟨k, _, hk⟩ := keysOf_at h4 hi
  cases x with
  | tup _ => rfl
  | undef => simp [keyOf] at hk
  | lst _ => simp [keyOf] at hk
  | dct _ _ => simp [keyOf] at hk
  | ins _ _ => simp [keyOf] at hk
  | ref _ _ => simp [keyOf] at hk
  | _ => simp only [Rp] at h9; cases h9
theorem DctL.tups {o : Obj} {ks : List MV} {vv : List V} (h : DctL Z o ks vv) : ks.all (fun k => !isTup k) = true := by
  obtain ⟨es, ep, xs, h1, h2, h3, h4, h5, h7⟩ := h
  rw [List.all_eq_true]
  intro x hx
  obtain ⟨i, hi⟩ := List.getElem?_of_mem hx
  obtain ⟨k, hk0, hk1⟩ := keysOf_at h5 hi
  rw [List.getElem?_map] at hk0
  obtain ⟨p, _, rfl⟩ := Option.map_eq_some_iff.mp hk0
  have hk : ∃ l : Leaf, keyOf x = some l.key := ⟨_, hk1⟩
  obtain ⟨l, hk⟩ := hk
  cases x with
  | tup ys =>
    simp only [keyOf, Option.map_eq_some_iff] at hk
    obtain ⟨_, _, e⟩ := hk
    cases l <;> cases e
  | _ => rfl
end

section
variable {X : Cx} {Z : Zt} {C : Ctx} {pins : List (Addr × Obj)} {σ : L2.St} {H : Hp} {s : Shared} {R : Rn} {T : Layer} {A : Around} {E : Value → Shared → Prop}
/-- which of the two a key meets -/
theorem dct_split {x : MV} {ks vs : List MV} {a : Addr} {o : Obj} {kv vv : List V} (hk : keysOk x ks = true) (r : Rps Z R ks kv) (d : DctO Z a o ks vs kv vv) :
    (isTup x = true ∧ DctT Z o ks kv vv) ∨ (isTup x = false ∧ DctL Z o ks vv) := by
  unfold keysOk at hk
  rw [Bool.and_eq_true] at hk
  cases ht : isTup x with
  | true =>
    rw [ht, if_pos rfl] at hk
    refine .inl ⟨rfl, ?_⟩
    rcases d.ents with h | h
    · exact h
    · cases ks with
      | nil => simp only [Rps] at r; subst r; exact h.nilT
      | cons y ys =>
        have h2 := h.tups
        simp only [List.all_cons, Bool.and_eq_true] at h2 hk
        rw [hk.2.1] at h2
        cases h2.1
  | false =>
    rw [ht] at hk
    simp only [Bool.false_eq_true, if_false] at hk
    refine .inr ⟨rfl, ?_⟩
    rcases d.ents with h | h
    · cases ks with
      | nil => exact h.nilL
      | cons y ys =>
        have h2 := h.tups r
        simp only [List.all_cons, Bool.and_eq_true] at h2 hk
        rw [h2.1] at hk
        cases hk.2.1
    · exact h
theorem room8 {A : Around} (hu : A.units + 64 < cLine) (P : Program) (w : World) : (nestedKind P w).room A.in1 := by
  show A.units + 1 + 8 < cLine
  omega
/-- x in d -/
theorem dct_in {neg : Bool} {x d : MV} {vx vd : V} {u ud : Value} {ks vs : List MV} {Q : Value → Shared → Prop} (hu : A.units + 64 < cLine) (I : Inv X pins σ H s) (hp : X.prog = Z.prog) (hw : X.w = Z.w) (hK : X.K = Z.K) (st : Sto Z R C.B T H)
    (px : Rp Z R x vx) (ru : RelV vx u) (pd : Rp Z R d vd) (rd : RelV vd ud) (hd : dctOf C T d = some (ks, vs)) (hk : keysOk x ks = true)
    (h : ∀ s', Inv X pins σ H s' → Q (.bool (if neg then !(lookK x ks vs).isSome else (lookK x ks vs).isSome)) s') : wpAny (model X.prog X.w) A (compareOp (if neg then .NotIn else .In) u ud) Q E s := by
  obtain ⟨a, o, kv, vv, rfl, ho, r1, r2, dd⟩ := dctOf_ok st pd hd
  cases rd
  have hg : s.heap.get? a = some o := (I.hok a _ ho).1
  have hk2 := hk
  unfold keysOk at hk2
  rw [Bool.and_eq_true] at hk2
  obtain ⟨k, hkey, hdep⟩ := hsh_key 8 x hk2.1
  rw [hp, hw]
  rcases dct_split hk r1 dd with ⟨ht, es, ep, xs, h1, h2, h3, h4, h5, h6, h7⟩ | ⟨ht, es, ep, kvs, h1, h2, h3, h4, h5, h7⟩
  · have is_ := nk_is I hK st x vx u k hkey px ru
    obtain ⟨b, rfl⟩ : ∃ b, u = .ref b := by
      cases x with
      | tup ys =>
        simp only [Rp] at px
        obtain ⟨b, _, rfl, _⟩ := px
        cases ru
        exact ⟨b, rfl⟩
      | _ => simp [isTup] at ht
    have dk : s.heap.DictOfH (nestedKind Z.prog Z.w) a xs := by
      refine ⟨o, es, ep, hg, dd.ex, h1, h2, fun y hy => ?_, h3⟩
      obtain ⟨i, hi⟩ := List.getElem?_of_mem hy
      have hkv : kv[i]? = some (V.ref y.2.1) := by rw [h5, List.getElem?_map, hi]; rfl
      have hnk : (xs.map (·.1))[i]? = some y.1 := by rw [List.getElem?_map, hi]; rfl
      have := keysOf_of h4 hnk
      obtain ⟨m, hm1, hm2⟩ := this
      obtain ⟨v, hv1, hv2⟩ := r1.get hm1
      rw [hkv] at hv1
      cases hv1
      exact ⟨nk_is I hK st m _ _ _ hm2 hv2 rfl, h7 y hy⟩
    have hl := lookT (Z := Z) (R := R) hkey xs ks vs vv h4 h6 r2
    have eq : (atKey xs k).isSome = (lookK x ks vs).isSome := by
      cases e : lookK x ks vs with
      | none => rw [e] at hl; rw [hl]; rfl
      | some w => rw [e] at hl; obtain ⟨p, _, e2, _⟩ := hl; rw [e2]; rfl
    cases neg with
    | false => exact wpAny_in_heap (room8 hu _ _) ⟨is_, hdep⟩ dd.ns dk (by rw [eq]; exact h _ (I.tok _))
    | true => exact wpAny_notIn_heap (room8 hu _ _) ⟨is_, hdep⟩ dd.ns dk (by rw [eq]; exact h _ (I.tok _))
  · obtain ⟨l, rfl, hl1⟩ := leaf_of (Z := Z) hkey ht px ru
    have dk : s.heap.DictOf (leafKind Z.prog Z.w) a kvs := ⟨o, es, ep, hg, dd.ex, h1, h2, h3, h4⟩
    have hl := lookL (Z := Z) (R := R) hkey kvs ks vs vv h5 h7 r2
    have eq : (valueAt kvs l).isSome = (lookK x ks vs).isSome := by
      cases e : lookK x ks vs with
      | none => rw [e] at hl; rw [hl]; rfl
      | some w => rw [e] at hl; obtain ⟨p, _, e2, _⟩ := hl; rw [e2]; rfl
    cases neg with
    | false => exact wpAny_in_of hl1 dd.ns dk.mapOf (by rw [eq]; exact h _ (I.tok _))
    | true => exact wpAny_notIn_of hl1 dd.ns dk.mapOf (by rw [eq]; exact h _ (I.tok _))
end
end Mini
end
section
set_option linter.all false
set_option maxRecDepth 100000
set_option maxHeartbeats 2000000
namespace Mini
open PySem PySem.Spec PyProof.Rows L2

section
variable {X : Cx} {Z : Zt} {C : Ctx} {pins : List (Addr × Obj)} {σ : L2.St} {H : Hp} {s : Shared} {R : Rn} {T : Layer} {A : Around} {E : Value → Shared → Prop}

/-- d's facts in the heap, one way or the other -/
theorem DctT.at (I : Inv X pins σ H s) (hK : X.K = Z.K) (st : Sto Z R C.B T H) {a : Addr} {o : Obj} {ks : List MV} {kv vv : List V} (ho : H a = some (AtO a o)) (ex : o.ExactDict) (r1 : Rps Z R ks kv) (h : DctT Z o ks kv vv) :
    ∃ xs, s.heap.DictOfH (nestedKind Z.prog Z.w) a xs ∧ keysOf ks = some (xs.map (·.1)) ∧ kv = xs.map (fun x => V.ref x.2.1) ∧ Vals vv (xs.map (·.2.2)) ∧ ∀ x ∈ xs, x.1.depth ≤ 8 := by
  obtain ⟨es, ep, xs, h1, h2, h3, h4, h5, h6, h7⟩ := h
  refine ⟨xs, ⟨o, es, ep, (I.hok a _ ho).1, ex, h1, h2, fun y hy => ?_, h3⟩, h4, h5, h6, h7⟩
  obtain ⟨i, hi⟩ := List.getElem?_of_mem hy
  have hkv : kv[i]? = some (V.ref y.2.1) := by rw [h5, List.getElem?_map, hi]; rfl
  have hnk : (xs.map (·.1))[i]? = some y.1 := by rw [List.getElem?_map, hi]; rfl
  obtain ⟨m, hm1, hm2⟩ := keysOf_of h4 hnk
  obtain ⟨v, hv1, hv2⟩ := r1.get hm1
  rw [hkv] at hv1
  cases hv1
  exact ⟨nk_is I hK st m _ _ _ hm2 hv2 rfl, h7 y hy⟩
theorem DctL.at (I : Inv X pins σ H s) {a : Addr} {o : Obj} {ks : List MV} {vv : List V} (ho : H a = some (AtO a o)) (ex : o.ExactDict) (h : DctL Z o ks vv) :
    ∃ kvs, s.heap.DictOf (leafKind Z.prog Z.w) a kvs ∧ keysOf ks = some (kvs.map (·.1.key)) ∧ Vals vv (kvs.map (·.2)) := by
  obtain ⟨es, ep, kvs, h1, h2, h3, h4, h5, h7⟩ := h
  exact ⟨kvs, ⟨o, es, ep, (I.hok a _ ho).1, ex, h1, h2, h3, h4⟩, h5, h7⟩
theorem tup_ref {x : MV} {v : V} {u : Value} (ht : isTup x = true) (p : Rp Z R x v) (r : RelV v u) : ∃ b, v = .ref b ∧ u = .ref b := by
  cases x with
  | tup ys =>
    simp only [Rp] at p
    obtain ⟨b, _, rfl, _⟩ := p
    cases r
    exact ⟨b, rfl, rfl⟩
  | _ => simp [isTup] at ht
theorem keysOk_key {x : MV} {ks : List MV} (h : keysOk x ks = true) : ∃ k, keyOf x = some k ∧ k.depth ≤ 8 := by
  unfold keysOk at h
  rw [Bool.and_eq_true] at h
  exact hsh_key 8 x h.1
/-- d[x] -/
theorem dct_get {x d y : MV} {vx vd : V} {u ud : Value} {ks vs : List MV} {Q : Value → Shared → Prop} (hu : A.units + 64 < cLine) (I : Inv X pins σ H s) (hp : X.prog = Z.prog) (hw : X.w = Z.w) (hK : X.K = Z.K) (st : Sto Z R C.B T H)
    (px : Rp Z R x vx) (ru : RelV vx u) (pd : Rp Z R d vd) (rd : RelV vd ud) (hd : dctOf C T d = some (ks, vs)) (hk : keysOk x ks = true) (hl : lookK x ks vs = some y)
    (h : ∀ vy uy s', Inv X pins σ H s' → RelV vy uy → Rp Z R y vy → Q uy s') : s.TypeIs ud "dict" ∧ wpAny (model X.prog X.w) A (getItem ud u) Q E s := by
  obtain ⟨a, o, kv, vv, rfl, ho, r1, r2, dd⟩ := dctOf_ok st pd hd
  cases rd
  obtain ⟨k, hkey, hdep⟩ := keysOk_key hk
  rw [hp, hw]
  refine ⟨⟨o, (I.hok a _ ho).1, dd.ex.1⟩, ?_⟩
  rcases dct_split hk r1 dd with ⟨ht, t⟩ | ⟨ht, t⟩
  · obtain ⟨xs, dk, h4, h5, h6, h7⟩ := t.at I hK st ho dd.ex r1
    have is_ := nk_is I hK st x vx u k hkey px ru
    obtain ⟨b, rfl, rfl⟩ := tup_ref ht px ru
    have q := lookT (Z := Z) (R := R) hkey xs ks vs vv h4 h6 r2
    rw [hl] at q
    obtain ⟨p, vw, e1, e2, e3⟩ := q
    exact wpAny_getItem_heap (room8 hu _ _) ⟨is_, hdep⟩ dk e1 (h vw p.2 _ (I.tok _) e2 e3)
  · obtain ⟨kvs, dk, h5, h7⟩ := t.at I ho dd.ex
    obtain ⟨l, rfl, hl1⟩ := leaf_of (Z := Z) hkey ht px ru
    have q := lookL (Z := Z) (R := R) hkey kvs ks vs vv h5 h7 r2
    rw [hl] at q
    obtain ⟨p, vw, e1, e2, e3⟩ := q
    exact wpAny_getItem_of hl1 dk.mapOf e1 (h vw p _ (I.tok _) e2 e3)

/-! ### d[x] = y -/
theorem atKey_cons (k0 k : NestedKey) (b : Addr) (u : Value) (xs : List (NestedKey × Addr × Value)) : atKey ((k0, b, u) :: xs) k = if k0 = k then some (b, u) else atKey xs k := by
  unfold atKey
  by_cases h : k0 = k
  · rw [if_pos h, List.find?_cons_of_pos (by simpa using h)]; rfl
  · rw [if_neg h, List.find?_cons_of_neg (by simpa using h)]
theorem putAt_none {xs : List (NestedKey × Addr × Value)} {k : NestedKey} {v : Value} (h : k ∉ xs.map (·.1)) : xs.map (putAt k v) = xs := by
  induction xs with
  | nil => rfl
  | cons x xs ih =>
    simp only [List.map_cons, List.mem_cons, not_or] at h
    rw [List.map_cons, ih h.2]
    congr 1
    unfold putAt
    rw [if_neg (fun e => h.1 e.symm)]
theorem storedH_cons (k0 k : NestedKey) (b0 b : Addr) (u v : Value) (xs : List (NestedKey × Addr × Value)) (nd : (((k0, b0, u) :: xs).map (·.1)).Nodup) : storedH ((k0, b0, u) :: xs) k b v = if k0 = k then (k0, b0, v) :: xs else (k0, b0, u) :: storedH xs k b v := by
  simp only [List.map_cons, List.nodup_cons] at nd
  by_cases h : k0 = k
  · subst h
    rw [if_pos rfl]
    rw [storedH_old (p := (b0, u)) (by rw [atKey_cons, if_pos rfl])]
    rw [List.map_cons, putAt_none nd.1]
    simp [putAt]
  · rw [if_neg h]
    unfold storedH
    rw [atKey_cons, if_neg h]
    split
    · rw [List.map_cons]; simp [putAt, h]
    · rfl
theorem putT {x y : MV} {k : NestedKey} {b : Addr} {vy : V} {uy : Value} (hk : keyOf x = some k) (px : Rp Z R x (.ref b)) (py : Rp Z R y vy) (ry : RelV vy uy) :
    ∀ (xs : List (NestedKey × Addr × Value)) (ks vs : List MV) (vv : List V), (xs.map (·.1)).Nodup → keysOf ks = some (xs.map (·.1)) → Vals vv (xs.map (·.2.2)) → Rps Z R ks (xs.map fun x => V.ref x.2.1) → Rps Z R vs vv →
    ∃ vv', keysOf (putKs x ks) = some ((storedH xs k b uy).map (·.1)) ∧ Vals vv' ((storedH xs k b uy).map (·.2.2)) ∧ Rps Z R (putKs x ks) ((storedH xs k b uy).map fun x => V.ref x.2.1) ∧ Rps Z R (putVs x y ks vs) vv'
  | [], ks, vs, vv, nd, h1, h2, h3, h4 => by
    have e : ks = [] := keysOf_nil h1
    subst e
    have e2 : storedH [] k b uy = [(k, b, uy)] := rfl
    rw [e2]
    exact ⟨[vy], by simp [putKs, keysOf, hk], .cons ry .nil, .cons px .nil, .cons py .nil⟩
  | (k0, b0, u0) :: xs, ks, vs, vv, nd, h1, h2, h3, h4 => by
    cases ks with
    | nil => simp [keysOf] at h1
    | cons z ks =>
      obtain ⟨k1, r, e, h5, h6⟩ := keysOf_cons h1
      simp only [List.map_cons, List.cons.injEq] at e
      obtain ⟨rfl, rfl⟩ := e
      cases h2 with
      | cons r1 r2 =>
        rename_i v0 vr
        cases vs with
        | nil => simp only [Rps] at h4; cases h4
        | cons w ws =>
          simp only [Rps] at h4
          obtain ⟨v1, vr1, e, p1, p2⟩ := h4
          simp only [List.cons.injEq] at e
          obtain ⟨rfl, rfl⟩ := e
          simp only [List.map_cons, Rps] at h3
          obtain ⟨v2, vr2, e, p3, p4⟩ := h3
          simp only [List.cons.injEq] at e
          obtain ⟨rfl, rfl⟩ := e
          rw [storedH_cons _ _ _ _ _ _ _ nd]
          simp only [putKs, putVs]
          rw [eqv_keyD h5 hk]
          by_cases hh : k0 = k
          · subst hh
            rw [decide_eq_true rfl]
            simp only [if_true]
            exact ⟨vy :: vr, by simp [keysOf, h5, h6], .cons ry r2, .cons p3 p4, .cons py p2⟩
          · rw [decide_eq_false hh]
            simp only [Bool.false_eq_true, if_false, if_neg hh]
            simp only [List.map_cons, List.nodup_cons] at nd
            obtain ⟨vv', a1, a2, a3, a4⟩ := putT hk px py ry xs ks ws vr nd.2 h6 r2 p4 p2
            exact ⟨v0 :: vv', by simp [keysOf, h5, a1], .cons r1 a2, .cons p3 a3, .cons p1 a4⟩
theorem stored_cons (k0 k : Leaf) (u v : Value) (xs : List (Leaf × Value)) (nd : (((k0, u) :: xs).map (·.1)).Nodup) : stored ((k0, u) :: xs) k v = if k0 = k then (k0, v) :: xs else (k0, u) :: stored xs k v := by
  simp only [List.map_cons, List.nodup_cons] at nd
  by_cases h : k0 = k
  · subst h
    rw [if_pos rfl]
    unfold stored
    rw [if_pos (by simp)]
    rw [List.map_cons, if_pos rfl]
    congr 1
    have : ∀ kv ∈ xs, (if kv.1 = k0 then (kv.1, v) else kv) = kv := fun kv hkv => by
      rw [if_neg]
      intro e
      exact nd.1 (e ▸ List.mem_map_of_mem hkv)
    rw [List.map_congr_left this, List.map_id']
  · rw [if_neg h]
    unfold stored
    have e1 : ((k0, u) :: xs).any (fun kv => decide (kv.1 = k)) = xs.any (fun kv => decide (kv.1 = k)) := by simp [h]
    rw [e1]
    split
    · rw [List.map_cons, if_neg h]
    · rfl
theorem putL {x y : MV} {k : Leaf} {vy : V} {uy : Value} (hk : keyOf x = some k.key) (py : Rp Z R y vy) (ry : RelV vy uy) :
    ∀ (xs : List (Leaf × Value)) (ks vs : List MV) (vv : List V), (xs.map (·.1)).Nodup → keysOf ks = some (xs.map (·.1.key)) → Vals vv (xs.map (·.2)) → Rps Z R vs vv →
    ∃ vv', keysOf (putKs x ks) = some ((stored xs k uy).map (·.1.key)) ∧ Vals vv' ((stored xs k uy).map (·.2)) ∧ Rps Z R (putVs x y ks vs) vv'
  | [], ks, vs, vv, nd, h1, h2, h4 => by
    have e : ks = [] := keysOf_nil h1
    subst e
    have e2 : stored [] k uy = [(k, uy)] := rfl
    rw [e2]
    exact ⟨[vy], by simp [putKs, keysOf, hk], .cons ry .nil, .cons py .nil⟩
  | (k0, u0) :: xs, ks, vs, vv, nd, h1, h2, h4 => by
    cases ks with
    | nil => simp [keysOf] at h1
    | cons z ks =>
      obtain ⟨k1, r, e, h5, h6⟩ := keysOf_cons h1
      simp only [List.map_cons, List.cons.injEq] at e
      obtain ⟨rfl, rfl⟩ := e
      cases h2 with
      | cons r1 r2 =>
        rename_i v0 vr
        cases vs with
        | nil => simp only [Rps] at h4; cases h4
        | cons w ws =>
          simp only [Rps] at h4
          obtain ⟨v1, vr1, e, p1, p2⟩ := h4
          simp only [List.cons.injEq] at e
          obtain ⟨rfl, rfl⟩ := e
          rw [stored_cons _ _ _ _ _ nd]
          simp only [putKs, putVs]
          rw [eqv_keyD h5 hk]
          by_cases hh : k0 = k
          · subst hh
            rw [decide_eq_true rfl]
            simp only [if_true]
            exact ⟨vy :: vr, by simp [keysOf, h5, h6], .cons ry r2, .cons py p2⟩
          · rw [decide_eq_false (fun e => hh (Leaf.key_inj e))]
            simp only [Bool.false_eq_true, if_false, if_neg hh]
            simp only [List.map_cons, List.nodup_cons] at nd
            obtain ⟨vv', a1, a2, a4⟩ := putL hk py ry xs ks ws vr nd.2 h6 r2 p2
            exact ⟨v0 :: vv', by simp [keysOf, h5, a1], .cons r1 a2, .cons p1 a4⟩
theorem putKs_len (x : MV) : ∀ ks : List MV, (putKs x ks).length ≤ ks.length + 1
  | [] => by simp [putKs]
  | k :: ks => by
    simp only [putKs]
    split
    · simp
    · have := putKs_len x ks; simp; omega
/-- the object at a is another one, all else stays -/
theorem AtO.write {a : Addr} {o o' : Obj} {h' : Heap} {t' : Nat} (I : Inv X pins σ H s) (ho : H a = some (AtO a o)) (hs : Heap.SameBut a s.heap h') (he : h'.get? a = some o') : Inv X pins σ (upd H a (AtO a o')) { s with heap := h', toks := t' } :=
  d_write I (by rw [ho]; exact True.intro) hs ⟨o', he⟩ ⟨he, ⟨o', he⟩, fun h1 h2 e k => k _ e⟩
def leafV : MV → V
  | .bl b => .bl b
  | .int i => .int i
  | .str z => .str ⟨z.toArray⟩
  | _ => .non
theorem leafV_ok : ∀ {ks : List MV} {nks : List NestedKey}, keysOf ks = some nks → ks.all (fun k => !isTup k) = true → Rps Z R ks (ks.map leafV)
  | [], _, _, _ => .nil
  | k :: ks, _, h, h' => by
    obtain ⟨q, r, rfl, e1, e2⟩ := keysOf_cons h
    simp only [List.all_cons, Bool.and_eq_true] at h'
    refine .cons ?_ (leafV_ok e2 h'.2)
    cases k <;> first | (simp [keyOf] at e1; done) | (simp [isTup] at h'; done) | (simp only [Rp, leafV]; done) | simp [Rp, leafV]
/-- d[x] = y: a new object at a -/
theorem dct_set {a : Addr} {o : Obj} {x y : MV} {vx vy : V} {u uy : Value} {ks vs : List MV} {kv vv : List V} {Q : Unit → Shared → Prop} (hu : A.units + 64 < cLine) (I : Inv X pins σ H s) (hp : X.prog = Z.prog) (hw : X.w = Z.w) (hK : X.K = Z.K) (st : Sto Z R C.B T H)
    (px : Rp Z R x vx) (ru : RelV vx u) (py : Rp Z R y vy) (ry : RelV vy uy) (ho : H a = some (AtO a o)) (r1 : Rps Z R ks kv) (r2 : Rps Z R vs vv) (dd : DctO Z a o ks vs kv vv) (hk : keysOk x ks = true) (hz : ks.length < 1000000)
    (h : ∀ o' kv' vv' s', Inv X pins σ (upd H a (AtO a o')) s' → DctO Z a o' (putKs x ks) (putVs x y ks vs) kv' vv' → Rps Z R (putKs x ks) kv' → Rps Z R (putVs x y ks vs) vv' → Q () s') :
    wpAny (model X.prog X.w) A (setItem (.ref a) u uy) Q E s := by
  obtain ⟨k, hkey, hdep⟩ := keysOk_key hk
  have hpl := putKs_len x ks
  have hsz : (1000000 : Nat) ≤ sizeLine := by rw [sizeLine_eq]; decide
  rw [hp, hw]
  rcases dct_split hk r1 dd with ⟨ht, t⟩ | ⟨ht, t⟩
  · obtain ⟨xs, dk, h4, h5, h6, h7⟩ := t.at I hK st ho dd.ex r1
    have is_ := nk_is I hK st x vx u k hkey px ru
    obtain ⟨b, rfl, rfl⟩ := tup_ref ht px ru
    subst h5
    obtain ⟨vv', a1, a2, a3, a4⟩ := putT hkey px py ry xs ks vs vv dk.nodup h4 h6 r1 r2
    have hlen : xs.length = ks.length := by rw [← keysOf_len h4, List.length_map]
    refine wpAny_setItem_heap (hsz := by omega) (room8 hu _ _) ⟨is_, hdep⟩ dk fun h' dk' hs => ?_
    obtain ⟨o', es', ep', g1, g2, g3, g4, g5, g6⟩ := dk'
    refine h o' _ vv' _ (AtO.write I ho hs g1) ⟨g2, dd.ns, .inl ⟨es', ep', _, g3, g4, g6, a1, rfl, a2, fun z hz => (g5 z hz).2⟩, by omega⟩ a3 a4
  · obtain ⟨kvs, dk, h5, h7⟩ := t.at I ho dd.ex
    obtain ⟨l, rfl, hl1⟩ := leaf_of (Z := Z) hkey ht px ru
    have nd : (kvs.map (·.1)).Nodup := let ⟨_, _, _, _, _, _, _, _, n⟩ := dk; n
    obtain ⟨vv', a1, a2, a4⟩ := putL hkey py ry kvs ks vs vv nd h5 h7 r2
    have hlen : kvs.length = ks.length := by rw [← keysOf_len h5, List.length_map]
    have tups := t.tups
    refine wpAny_setItem_pairs (hsz := by omega) hl1 dk fun h' dk' hs => ?_
    obtain ⟨o', es', ep', g1, g2, g3, g4, g5, g6⟩ := dk'
    have dl : DctL Z o' (putKs x ks) vv' := ⟨es', ep', _, g3, g4, g5, g6, a1, a2⟩
    exact h o' _ vv' _ (AtO.write I ho hs g1) ⟨g2, dd.ns, .inr dl, by omega⟩ (leafV_ok a1 dl.tups) a4
end
end Mini
end
section
set_option linter.all false
set_option maxRecDepth 100000
set_option maxHeartbeats 2000000
namespace Mini
open PySem PySem.Spec PyProof.Rows L2

abbrev nX : XT := fun _ _ _ _ _ _ => False
theorem big_line : big ≤ sizeLine := by rw [sizeLine_eq]; decide
section
variable {Z : Zt} {B : List Layer} {XE : XT} {σ : L2.St} {R : Rn} {H : Hp} {α : Type}
theorem Out.optE {o : Option α} {T : Layer} {K : α → Layer → Rn → Hp → Prop} (h : Out Z B XE σ (optR o T) R H K) : ∃ a, o = some a ∧ Out Z B XE σ (.ok a T) R H K := by
  cases o with
  | none => exact h.elim
  | some a => exact ⟨a, rfl, h⟩
theorem Out.optB {β : Type} {o : Option α} {T : Layer} {f : α → Layer → Res β} {K : β → Layer → Rn → Hp → Prop} (h : Out Z B XE σ ((optR o T).bind f) R H K) : ∃ a, o = some a ∧ Out Z B XE σ (f a T) R H K := by
  cases o with
  | none => exact h.elim
  | some a => exact ⟨a, rfl, h⟩
end

section
variable {X : Cx} {Z : Zt} {C : Ctx} {XE : XT} {σ : L2.St} {H : Hp} {R : Rn} {T : Layer} {e a b c : PySem.Expr} {ma mb mc : E} {pos : Pos}

/-! ### several -/
theorem es_nil : PA X [] (tEs Z C XE .nil) := PAimp pa_nil fun σ H Q ⟨R, δ, T, _, st, q⟩ => by
  simp only [evs] at q
  exact q.ok st [] Rps.nil
theorem es_cons {es : List PySem.Expr} {mes : Es} (ha : PE X e (tE Z C XE ma)) (hr : PA X es (tEs Z C XE mes)) (hs : starEach (e :: es) X.env = (false, eval e X.env) :: starEach es X.env := by rfl) : PA X (e :: es) (tEs Z C XE (.cons ma mes)) :=
  PAimp (pa_cons ha hr hs) fun σ H Q ⟨R, δ, T, fr, st, q⟩ => by
    simp only [evs] at q
    exact one fr st q fun x T1 R1 H1 vx e1 f1 s1 p1 k1 => ⟨R1, δ, T1, f1, s1, k1.bind.sto.imp fun xs T2 R2 H2 _ ⟨e2, s2, k2⟩ vs pv => k2.ok s2 (vx :: vs) (Rps.cons (Rp.mono e2.le _ _ p1) pv)⟩
theorem s_tup {es : List PySem.Expr} {mes : Es} {x1} (h : PA X es (tEs Z C XE mes)) (hx : XOk X Z C) : PE X (.Tuple es x1 pos) (tE Z C XE (.tup mes)) := PEimp (pe_tup h) fun σ H Q ⟨R, δ, T, fr, st, q⟩ => by
  simp only [ev] at q
  refine ⟨R, δ, T, fr, st, q.bind.sto.imp fun vs T1 R1 H1 _ ⟨e1, s1, k1⟩ xs px => ?_⟩
  obtain ⟨hz, k1⟩ := k1.sized
  refine ⟨by rw [px.len]; exact Nat.le_trans hz big_line, fun p hp => ?_⟩
  obtain ⟨e2, s2⟩ := s1.fzn (.tup xs) hp
  refine k1 _ _ e2 s2 _ ?_
  simp only [Rp]
  exact ⟨p, xs, rfl, SqT.of upd_same, Rps.mono e2.le _ _ px⟩

/-! ### truth -/
theorem emp {xs : List MV} {vs : List V} (h : Rps Z R xs vs) : (!xs.isEmpty) = !vs.isEmpty := by
  cases xs with
  | nil => simp only [Rps] at h; subst h; rfl
  | cons x xs => simp only [Rps] at h; obtain ⟨v, r, rfl, _⟩ := h; rfl
theorem tru (st : Sto Z R C.B T H) {x : MV} {v : V} {k : Bool} (p : Rp Z R x v) (h : truthy C T x = some k) : TruV Z.K v H k := by
  cases x with
  | non => simp only [Rp] at p; simp only [truthy, Option.some.injEq] at h; subst p; exact h.symm
  | bl b => simp only [Rp] at p; simp only [truthy, Option.some.injEq] at h; subst p; exact h.symm
  | int i => simp only [Rp] at p; simp only [truthy, Option.some.injEq] at h; subst p; exact h.symm
  | str s =>
    simp only [Rp] at p
    simp only [truthy] at h
    split at h
    · rename_i hz
      simp only [Option.some.injEq] at h
      subst p
      refine ⟨Nat.le_trans (by show s.toArray.size ≤ big; simpa using hz) big_line, ?_⟩
      show k = (((s.toArray.size : Nat) : Int) != 0)
      rw [← h]
      cases s with
      | nil => rfl
      | cons c r => simp [bne]; omega
    · cases h
  | tup xs =>
    simp only [Rp] at p
    simp only [truthy, Option.some.injEq] at h
    obtain ⟨a, vs, rfl, h1, h2⟩ := p
    exact .inr (.inl ⟨vs, st.sqT h1, by rw [← h, emp h2]⟩)
  | lst xs =>
    simp only [Rp] at p
    simp only [truthy, Option.some.injEq] at h
    obtain ⟨a, vs, rfl, h1, h2⟩ := p
    exact .inl ⟨vs, .inl (st.rd h1), by rw [← h, emp h2]⟩
  | ref l j =>
    simp only [Rp] at p
    simp only [truthy] at h
    split at h
    · rename_i xs hc
      simp only [Option.some.injEq] at h
      obtain ⟨_, vs, h1, h2⟩ := st.cellAt hc
      obtain ⟨rfl, _⟩ := p
      exact .inl ⟨vs, .inl (.inl h1), by rw [← h, emp h2]⟩
    · cases h
  | _ => simp only [truthy] at h; cases h

def tst (C : Ctx) (me : E) (δ : List MV) (T : Layer) : Res Bool := (ev C me δ T).bind fun x T1 => optR (truthy C T1 x) T1
theorem tT_iff {me : E} {Q : Bool → Hp → Prop} : tT Z C XE me σ H Q ↔ ∃ R δ T, Frm Z R δ σ ∧ Sto Z R C.B T H ∧ Out Z C.B XE σ (tst C me δ T) R H fun b _ _ H' => Q b H' := Iff.rfl
theorem bind_ok {α β γ : Type} (r : Res α) (f : α → Layer → Res β) (g : β → Layer → Res γ) : (r.bind f).bind g = r.bind fun a T => (f a T).bind g := by cases r <;> rfl
theorem tst_not {δ : List MV} : tst C (.not ma) δ T = (tst C ma δ T).bind fun b T2 => .ok (!b) T2 := by
  simp only [tst, ev, bind_ok]
  congr 1
theorem tst_and {δ : List MV} : tst C (.and ma mb) δ T = (tst C ma δ T).bind fun c T2 => if c then tst C mb δ T2 else .ok false T2 := by
  simp only [tst, ev, bind_ok]
  congr 1; funext x T1
  cases h : truthy C T1 x with
  | none => rfl
  | some c => cases c with
    | false => simp [optR, Res.bind, h]
    | true => rfl
theorem tst_or {δ : List MV} : tst C (.or ma mb) δ T = (tst C ma δ T).bind fun c T2 => if c then .ok true T2 else tst C mb δ T2 := by
  simp only [tst, ev, bind_ok]
  congr 1; funext x T1
  cases h : truthy C T1 x with
  | none => rfl
  | some c => cases c with
    | true => simp [optR, Res.bind, h]
    | false => rfl
theorem tst_cmp {op : CmpO} {δ : List MV} : tst C (.cmp op ma mb) δ T = (ev C ma δ T).bind fun x T1 => (ev C mb δ T1).bind fun y T2 => optR (cmpM C T2 op x y) T2 := by
  simp only [tst, ev, bind_ok]
  congr 1; funext x T1
  congr 1; funext y T2
  cases cmpM C T2 op x y <;> rfl

theorem t_val (hx : XOk X Z C) (ha : PE X a (tE Z C XE ma)) (he : ∀ whole, isTrue a X.env whole = (do let v ← whole; standAt a.pos; holding [v] (PySem.truthy v)) := by exact fun _ => rfl) : PT X a (tT Z C XE ma) :=
  PTimp (pt_truth ha he) fun σ H Q ⟨R, δ, T, fr, st, q⟩ => one fr st q fun x T1 R1 H1 vx e1 f1 s1 p1 k1 => by
    obtain ⟨k, h1, h2⟩ := k1.opt s1
    exact ⟨k, hx.K ▸ tru s1 p1 h1, h2⟩
theorem t_not (ha : PT X a (tT Z C XE ma)) : PT X (.UnaryOp .Not a pos) (tT Z C XE (.not ma)) :=
  PTimp (pt_not ha) fun σ H Q ⟨R, δ, T, fr, st, q⟩ => by
    have q : Out Z C.B XE σ (tst C (.not ma) δ T) R H _ := q
    rw [tst_not] at q
    exact ⟨R, δ, T, fr, st, q.bind.sto.imp fun b T1 R1 H1 _ ⟨_, s1, k⟩ => k.ok s1⟩
theorem t_and1 (ha : PT X a (tT Z C XE ma)) : PW X (.BoolOp .And [a] pos) (tT Z C XE ma) := pw_and1 ha
theorem t_or1 (ha : PT X a (tT Z C XE ma)) : PW X (.BoolOp .Or [a] pos) (tT Z C XE ma) := pw_or1 ha
theorem t_and {rest : List PySem.Expr} (ha : PT X a (tT Z C XE ma)) (hb : PW X (.BoolOp .And (b :: rest) pos) (tT Z C XE mb)) : PW X (.BoolOp .And (a :: b :: rest) pos) (tT Z C XE (.and ma mb)) :=
  PWimp (pw_and ha hb) fun σ H Q ⟨R, δ, T, fr, st, q⟩ => by
    have q : Out Z C.B XE σ (tst C (.and ma mb) δ T) R H _ := q
    rw [tst_and] at q
    refine ⟨R, δ, T, fr, st, q.bind.sto.imp fun c T1 R1 H1 _ ⟨e1, s1, k⟩ => ?_⟩
    cases c with
    | true => exact ⟨R1, δ, T1, fr.mono e1.le, s1, k⟩
    | false => exact k.ok s1
theorem t_or {rest : List PySem.Expr} (ha : PT X a (tT Z C XE ma)) (hb : PW X (.BoolOp .Or (b :: rest) pos) (tT Z C XE mb)) : PW X (.BoolOp .Or (a :: b :: rest) pos) (tT Z C XE (.or ma mb)) :=
  PWimp (pw_or ha hb) fun σ H Q ⟨R, δ, T, fr, st, q⟩ => by
    have q : Out Z C.B XE σ (tst C (.or ma mb) δ T) R H _ := q
    rw [tst_or] at q
    refine ⟨R, δ, T, fr, st, q.bind.sto.imp fun c T1 R1 H1 _ ⟨e1, s1, k⟩ => ?_⟩
    cases c with
    | false => exact ⟨R1, δ, T1, fr.mono e1.le, s1, k⟩
    | true => exact k.ok s1

/-! ### not, and, or: values -/
theorem s_not (hx : XOk X Z C) (ha : PE X a (tE Z C XE ma)) : PE X (.UnaryOp .Not a pos) (tE Z C XE (.not ma)) :=
  PEimp (pe_notT ha) fun σ H Q ⟨R, δ, T, fr, st, q⟩ => by
    simp only [ev] at q
    refine one fr st q fun x T1 R1 H1 vx e1 f1 s1 p1 k1 => ?_
    obtain ⟨k, h1, h2⟩ := k1.bind.opt s1
    exact ⟨k, hx.K ▸ tru s1 p1 h1, h2.ok s1 _ (by simp only [Rp])⟩
theorem s_one {op} (ha : PE X a (tE Z C XE ma)) : PE X (.BoolOp op [a] pos) (tE Z C XE ma) := pe_one ha
theorem s_and {rest : List PySem.Expr} (hx : XOk X Z C) (ha : PE X a (tE Z C XE ma)) (hb : PE X (.BoolOp .And (b :: rest) pos) (tE Z C XE mb)) : PE X (.BoolOp .And (a :: b :: rest) pos) (tE Z C XE (.and ma mb)) :=
  PEimp (pe_andT ha hb) fun σ H Q ⟨R, δ, T, fr, st, q⟩ => by
    simp only [ev] at q
    refine one fr st q fun x T1 R1 H1 vx e1 f1 s1 p1 k1 => ?_
    obtain ⟨k, h1, h2⟩ := k1.bind.opt s1
    refine ⟨k, hx.K ▸ tru s1 p1 h1, ?_⟩
    cases k with
    | true => exact ⟨R1, δ, T1, f1, s1, h2⟩
    | false => exact h2.ok s1 _ p1
theorem s_or {rest : List PySem.Expr} (hx : XOk X Z C) (ha : PE X a (tE Z C XE ma)) (hb : PE X (.BoolOp .Or (b :: rest) pos) (tE Z C XE mb)) : PE X (.BoolOp .Or (a :: b :: rest) pos) (tE Z C XE (.or ma mb)) :=
  PEimp (pe_orT ha hb) fun σ H Q ⟨R, δ, T, fr, st, q⟩ => by
    simp only [ev] at q
    refine one fr st q fun x T1 R1 H1 vx e1 f1 s1 p1 k1 => ?_
    obtain ⟨k, h1, h2⟩ := k1.bind.opt s1
    refine ⟨k, hx.K ▸ tru s1 p1 h1, ?_⟩
    cases k with
    | false => exact ⟨R1, δ, T1, f1, s1, h2⟩
    | true => exact h2.ok s1 _ p1
theorem s_ite (hc : PT X c (tT Z C XE mc)) (ha : PE X a (tE Z C XE ma)) (hb : PE X b (tE Z C XE mb)) : PE X (.IfExp c a b pos) (tE Z C XE (.ite mc ma mb)) :=
  PEimp (pe_ifExp hc ha hb) fun σ H Q ⟨R, δ, T, fr, st, q⟩ => by
    simp only [ev, ← bind_ok] at q
    refine ⟨R, δ, T, fr, st, q.bind.sto.imp fun k T1 R1 H1 _ ⟨e1, s1, k1⟩ => ?_⟩
    cases k with
    | true => exact ⟨R1, δ, T1, fr.mono e1.le, s1, k1⟩
    | false => exact ⟨R1, δ, T1, fr.mono e1.le, s1, k1⟩

/-! ### two operands -/
theorem s_bin {op : Op2} {o : Operator} {r : R2} (ho : OpR X (binaryOp o) r) (ha : PE X a (tE Z C XE ma)) (hb : PE X b (tE Z C XE mb))
    (hop : ∀ {R : Rn} {H : Hp} {T : Layer} {x y v : MV} {vx vy : V} {Q : VK}, Sto Z R C.B T H → Rp Z R x vx → Rp Z R y vy → bin C T op x y = some v → (∀ H' R' w, Ext C.B.length R R' H H' → Sto Z R' C.B T H' → Rp Z R' v w → Q w H') → r vx vy H Q) :
    PE X (.BinOp a o b pos) (tE Z C XE (.bin op ma mb)) :=
  PEimp (pe_op ho ha hb) fun σ H Q ⟨R, δ, T, fr, st, q⟩ => by
    simp only [ev] at q
    refine two fr st q fun x y T2 R2 H2 vx vy e2 f2 s2 px py k2 => ?_
    obtain ⟨v, h1, h2⟩ := k2.optE
    exact hop s2 px py h1 fun H' R' w e s p => h2 H' R' e s w p
end
end Mini
end
section
set_option linter.all false
set_option maxRecDepth 100000
set_option maxHeartbeats 2000000
namespace Mini
open PySem PySem.Spec PyProof.Rows L2

/-! ### the operators -/
section
variable {X : Cx} {Z : Zt} {C : Ctx} {XE : XT} {σ : L2.St} {H : Hp} {R : Rn} {T : Layer} {e a b c : PySem.Expr} {ma mb mc : E} {pos : Pos}
theorem rp_int {i : Int} : Rp Z R (.int i) (.int i) := by simp only [Rp]
theorem rp_bl {i : Bool} : Rp Z R (.bl i) (.bl i) := by simp only [Rp]
theorem rp_non : Rp Z R .non .non := by simp only [Rp]
theorem rp_str {s : List Nat} : Rp Z R (.str s) (.str ⟨s.toArray⟩) := by simp only [Rp]
theorem rp_tup {p : Addr} {xs : List MV} {vs : List V} (h : SqT Z.K R.F p vs) (r : Rps Z R xs vs) : Rp Z R (.tup xs) (.ref p) := by
  simp only [Rp]; exact ⟨p, vs, rfl, h, r⟩
theorem rp_lst {p : Addr} {xs : List MV} {vs : List V} (h : Rd R.F p (.lst vs)) (r : Rps Z R xs vs) : Rp Z R (.lst xs) (.ref p) := by
  simp only [Rp]; exact ⟨p, vs, rfl, h, r⟩
theorem len_nil {xs : List MV} {vs : List V} (h : Rps Z R xs vs) : vs = [] ↔ xs = [] := by
  rw [← List.length_eq_zero_iff, h.len, List.length_eq_zero_iff]
/-- a new tuple, also one that is an elder one -/
theorem new_tup (s : Sto Z R C.B T H) {xs : List MV} {vs : List V} (r : Rps Z R xs vs) {p : Addr} (hp : H p = none) {Q : VK} (q : ∀ H' R' w, Ext C.B.length R R' H H' → Sto Z R' C.B T H' → Rp Z R' (.tup xs) w → Q w H') : Q (.ref p) (upd H p (.tup vs)) := by
  obtain ⟨e, s2⟩ := s.fzn (.tup vs) hp
  exact q _ _ _ e s2 (rp_tup (SqT.of upd_same) (Rps.mono e.le _ _ r))

def rAddM (K : PySem.W.Frag) : R2 := fun x y H Q => rI0 (fun i j => .int (i + j)) x y H Q ∨ (∃ i j, x = .str i ∧ y = .str j ∧ i.length + j.length ≤ sizeLine ∧ Q (.str (i ++ j)) H) ∨ rCatA K x y H Q
theorem op_addM : OpR X (binaryOp .Add) (rAddM X.K) := L2.OpR.or op_add (L2.OpR.or op_add_str op_catA)
theorem s_add (hx : XOk X Z C) (ha : PE X a (tE Z C XE ma)) (hb : PE X b (tE Z C XE mb)) : PE X (.BinOp a .Add b pos) (tE Z C XE (.bin .add ma mb)) :=
  s_bin op_addM ha hb fun {R H T x y v vx vy Q} s px py h q => by
    cases x <;> cases y <;> simp only [bin] at h <;> try cases h
    · rename_i i j
      simp only [Rp] at px py
      exact .inl ⟨i, j, px, py, q _ _ _ (Ext.refl s) s rp_int⟩
    · rename_i i j
      split at h
      · rename_i hz
        cases h
        simp only [Rp] at px py
        refine .inr (.inl ⟨_, _, px, py, ?_, ?_⟩)
        · show i.toArray.size + j.toArray.size ≤ sizeLine
          simp only [List.size_toArray]
          exact Nat.le_trans hz big_line
        · have e : (⟨i.toArray⟩ : Str) ++ ⟨j.toArray⟩ = ⟨(i ++ j).toArray⟩ := by
            show Str.append _ _ = _
            unfold Str.append
            simp
          rw [e]
          exact q _ _ _ (Ext.refl s) s rp_str
      · cases h
    · rename_i xs ys
      split at h
      · rename_i hz
        cases h
        simp only [Rp] at px py
        obtain ⟨p, vs, rfl, h1, h2⟩ := px
        obtain ⟨p', vs', rfl, h3, h4⟩ := py
        refine .inr (.inr ⟨p, p', vs, vs', rfl, rfl, hx.K ▸ s.sqT h1, hx.K ▸ s.sqT h3, by rw [h2.len, h4.len]; exact Nat.le_trans hz big_line, fun e => ?_, fun _ e => ?_, fun _ _ p hp => ?_⟩)
        · rw [len_nil h2] at e
          subst e
          exact q _ _ _ (Ext.refl s) s (rp_tup h3 h4)
        · rw [len_nil h4] at e
          subst e
          rw [List.append_nil] at q
          exact q _ _ _ (Ext.refl s) s (rp_tup h1 h2)
        · exact new_tup s (Rps.append h2 h4) hp q
      · cases h
theorem s_sub (ha : PE X a (tE Z C XE ma)) (hb : PE X b (tE Z C XE mb)) : PE X (.BinOp a .Sub b pos) (tE Z C XE (.bin .sub ma mb)) :=
  s_bin op_sub ha hb fun {R H T x y v vx vy Q} s px py h q => by
    cases x <;> cases y <;> simp only [bin] at h <;> try cases h
    simp only [Rp] at px py
    exact ⟨_, _, px, py, q _ _ _ (Ext.refl s) s rp_int⟩
theorem s_mul (ha : PE X a (tE Z C XE ma)) (hb : PE X b (tE Z C XE mb)) : PE X (.BinOp a .Mult b pos) (tE Z C XE (.bin .mul ma mb)) :=
  s_bin op_mulZ ha hb fun {R H T x y v vx vy Q} s px py h q => by
    cases x <;> cases y <;> simp only [bin] at h <;> try cases h
    split at h
    · rename_i hz
      cases h
      simp only [Rp] at px py
      exact ⟨_, _, px, py, hz, q _ _ _ (Ext.refl s) s rp_int⟩
    · cases h
theorem s_fdiv (ha : PE X a (tE Z C XE ma)) (hb : PE X b (tE Z C XE mb)) : PE X (.BinOp a .FloorDiv b pos) (tE Z C XE (.bin .fdiv ma mb)) :=
  s_bin op_fdivZ ha hb fun {R H T x y v vx vy Q} s px py h q => by
    cases x <;> cases y <;> simp only [bin] at h <;> try cases h
    split at h
    · rename_i hz
      cases h
      simp only [Rp] at px py
      exact ⟨_, _, px, py, hz, q _ _ _ (Ext.refl s) s rp_int⟩
    · cases h
theorem s_mod (ha : PE X a (tE Z C XE ma)) (hb : PE X b (tE Z C XE mb)) : PE X (.BinOp a .Mod b pos) (tE Z C XE (.bin .mod ma mb)) :=
  s_bin op_mod ha hb fun {R H T x y v vx vy Q} s px py h q => by
    cases x <;> cases y <;> simp only [bin] at h <;> try cases h
    split at h
    · rename_i hz
      cases h
      simp only [Rp] at px py
      exact ⟨_, _, px, py, hz, q _ _ _ (Ext.refl s) s rp_int⟩
    · cases h
theorem s_pow (ha : PE X a (tE Z C XE ma)) (hb : PE X b (tE Z C XE mb)) : PE X (.BinOp a .Pow b pos) (tE Z C XE (.bin .pow ma mb)) :=
  s_bin op_powZ ha hb fun {R H T x y v vx vy Q} s px py h q => by
    cases x <;> cases y <;> simp only [bin] at h <;> try cases h
    split at h
    · rename_i hz
      cases h
      simp only [Rp] at px py
      exact ⟨_, _, px, py, hz, q _ _ _ (Ext.refl s) s rp_int⟩
    · cases h
theorem s_neg (ha : PE X a (tE Z C XE ma)) : PE X (.UnaryOp .USub a pos) (tE Z C XE (.neg ma)) :=
  PEimp (pe_un un_neg ha) fun σ H Q ⟨R, δ, T, fr, st, q⟩ => by
    simp only [ev] at q
    refine one fr st q fun x T1 R1 H1 vx e1 f1 s1 p1 k1 => ?_
    cases x with
    | int i => simp only [Rp] at p1; exact ⟨i, p1, k1.ok s1 _ rp_int⟩
    | _ => exact k1.elim

/-! ### comparisons -/
def rCmp (Z : Zt) (C : Ctx) (op : CmpO) : R2 := fun x y H Q => ∃ R T mx my k, Sto Z R C.B T H ∧ Rp Z R mx x ∧ Rp Z R my y ∧ cmpM C T op mx my = some k ∧ Q (.bl k) H
theorem oc_eq (hx : XOk X Z C) : OpR X (compareOp .Eq) (rCmp Z C .eq) := fun pins s σ H x y v u Q I rx ry ⟨R, T, mx, my, k, st, px, py, h, q⟩ => by
  simp only [cmpM] at h
  obtain ⟨d, e, h1, h2, h3, h4, rfl⟩ := eqM_ok st h px py
  exact op_eqD (Room.units hx.room) pins s σ H x y v u Q I rx ry ⟨d, e, hx.K ▸ h1, hx.K ▸ h2, h3, h4, q⟩
theorem oc_ne (hx : XOk X Z C) : OpR X (compareOp .NotEq) (rCmp Z C .ne) := fun pins s σ H x y v u Q I rx ry ⟨R, T, mx, my, k, st, px, py, h, q⟩ => by
  simp only [cmpM, Option.map_eq_some_iff] at h
  obtain ⟨k', h, rfl⟩ := h
  obtain ⟨d, e, h1, h2, h3, h4, rfl⟩ := eqM_ok st h px py
  exact op_neD (Room.units hx.room) pins s σ H x y v u Q I rx ry ⟨d, e, hx.K ▸ h1, hx.K ▸ h2, h3, h4, q⟩
theorem oc_int {cop : CmpOp} {op : CmpO} {g : Int → Int → Bool} (ho : OpR X (compareOp cop) (rI0 fun i j => .bl (g i j))) (hop : ∀ T x y k, cmpM C T op x y = some k → ∃ i j, x = .int i ∧ y = .int j ∧ k = g i j) : OpR X (compareOp cop) (rCmp Z C op) :=
  fun pins s σ H x y v u Q I rx ry ⟨R, T, mx, my, k, st, px, py, h, q⟩ => by
    obtain ⟨i, j, rfl, rfl, rfl⟩ := hop _ _ _ _ h
    simp only [Rp] at px py
    exact ho pins s σ H x y v u Q I rx ry ⟨i, j, px, py, q⟩
theorem oc_lt : OpR X (compareOp .Lt) (rCmp Z C .lt) := oc_int op_lt fun T x y k h => by cases x <;> cases y <;> simp only [cmpM] at h <;> cases h; exact ⟨_, _, rfl, rfl, rfl⟩
theorem oc_le : OpR X (compareOp .LtE) (rCmp Z C .le) := oc_int op_le fun T x y k h => by cases x <;> cases y <;> simp only [cmpM] at h <;> cases h; exact ⟨_, _, rfl, rfl, rfl⟩
theorem oc_gt : OpR X (compareOp .Gt) (rCmp Z C .gt) := oc_int op_gt fun T x y k h => by cases x <;> cases y <;> simp only [cmpM] at h <;> cases h; exact ⟨_, _, rfl, rfl, rfl⟩
theorem oc_ge : OpR X (compareOp .GtE) (rCmp Z C .ge) := oc_int op_ge fun T x y k h => by cases x <;> cases y <;> simp only [cmpM] at h <;> cases h; exact ⟨_, _, rfl, rfl, rfl⟩
/-- what is of another kind than None, bool -/
theorem rp_kind {x : MV} {v : V} (p : Rp Z R x v) : match x with | .undef => True | .non => v = .non | .bl b => v = .bl b | _ => v ≠ .non ∧ ∀ b, v ≠ .bl b := by
  cases x <;> simp only [Rp] at p <;> first
    | trivial
    | exact p
    | (subst p; exact ⟨by simp, by simp⟩)
    | (obtain ⟨a, b, rfl, _⟩ := p; exact ⟨by simp, by simp⟩)
    | (obtain ⟨a, b, c, d, rfl, _⟩ := p; exact ⟨by simp, by simp⟩)
    | (obtain ⟨a, b, c, d, e, rfl, _⟩ := p; exact ⟨by simp, by simp⟩)
    | (obtain ⟨rfl, _⟩ := p; exact ⟨by simp, by simp⟩)
theorem is_bl_run {neg : Bool} {pins : List (Addr × Obj)} {s : Shared} {x : V} {v : Value} {b : Bool} {Q : VK} (I : Inv X pins σ H s) (rx : RelV x v) (q : Q (.bl (if neg then !decide (x = .bl b) else decide (x = .bl b))) H) :
    wpAny (model X.prog X.w) X.A (compareOp (if neg then .IsNot else .Is) v (.bool b)) (EP X pins σ Q) X.xe s := by
  have hp : plainIs v (.bool b) = true := by
    cases x <;> first
      | (cases rx; rfl)
      | (obtain ⟨t, rfl⟩ := rx; rfl)
  by_cases h : x = .bl b
  · subst h
    cases rx
    cases neg
    · exact wpAny_is_self rfl ⟨.bl true, H, I, rfl, by simpa using q⟩
    · exact wpAny_isNot_self rfl ⟨.bl false, H, I, rfl, by simpa using q⟩
  · have hne : v ≠ .bool b := by
      intro e; subst e
      exact h (rx.inj (show RelV (.bl b) (.bool b) from rfl))
    cases neg
    · exact wpAny_is_other hp hne ⟨.bl false, H, I, rfl, by simpa [h] using q⟩
    · exact wpAny_isNot_other hp hne ⟨.bl true, H, I, rfl, by simpa [h] using q⟩
theorem oc_is : OpR X (compareOp .Is) (rCmp Z C .is_) := fun pins s σ H x y v u Q I rx ry ⟨R, T, mx, my, k, st, px, py, h, q⟩ => by
  have hk := rp_kind px
  cases my <;> simp only [cmpM] at h <;> try cases h
  · simp only [Rp] at py
    subst py
    refine op_isN pins s σ H x .non v u Q I rx ry ⟨rfl, ?_⟩
    cases mx <;> simp only at hk h <;> cases h <;> first
      | (subst hk; simpa using q)
      | (rw [decide_eq_false hk.1]; exact q)
  · simp only [Rp] at py
    subst py
    rename_i b
    cases ry
    refine is_bl_run (neg := false) I rx ?_
    simp only [Bool.false_eq_true, if_false]
    cases mx <;> simp only at hk h <;> cases h <;> first
      | (subst hk; simpa using q)
      | (rw [decide_eq_false (hk.2 _)]; exact q)
      | (subst hk; rename_i b2 b3; rw [dec_bl]; exact q)
theorem oc_isn : OpR X (compareOp .IsNot) (rCmp Z C .isn) := fun pins s σ H x y v u Q I rx ry ⟨R, T, mx, my, k, st, px, py, h, q⟩ => by
  have hk := rp_kind px
  cases my <;> simp only [cmpM] at h <;> try cases h
  · simp only [Rp] at py
    subst py
    refine op_notN pins s σ H x .non v u Q I rx ry ⟨rfl, ?_⟩
    cases mx <;> simp only at hk h <;> cases h <;> first
      | (subst hk; simpa using q)
      | (rw [decide_eq_false hk.1]; exact q)
  · simp only [Rp] at py
    subst py
    rename_i b
    cases ry
    refine is_bl_run (neg := true) I rx ?_
    simp only [if_true]
    cases mx <;> simp only at hk h <;> cases h <;> first
      | (subst hk; simpa using q)
      | (rw [decide_eq_false (hk.2 _)]; exact q)
      | (subst hk; rename_i b2 b3; rw [dec_bl]; exact q)

theorem s_cmp {cop : CmpOp} {op : CmpO} (ho : OpR X (compareOp cop) (rCmp Z C op)) (ha : PE X a (tE Z C XE ma)) (hb : PE X b (tE Z C XE mb)) (hm : behindInMarks cop b = false := by rfl) : PE X (.Compare a [cop] [b] pos) (tE Z C XE (.cmp op ma mb)) :=
  PEimp (pe_cmpR ho ha hb hm) fun σ H Q ⟨R, δ, T, fr, st, q⟩ => by
    simp only [ev] at q
    refine two fr st q fun x y T2 R2 H2 vx vy e2 f2 s2 px py k2 => ?_
    obtain ⟨k, h1, h2⟩ := k2.bind.opt s2
    exact ⟨R2, T2, x, y, k, s2, px, py, h1, h2.ok s2 _ rp_bl⟩
theorem t_cmp {cop : CmpOp} {op : CmpO} (ho : OpR X (compareOp cop) (rCmp Z C op)) (ha : PE X a (tE Z C XE ma)) (hb : PE X b (tE Z C XE mb)) (hm : behindInMarks cop b = false := by rfl) : PT X (.Compare a [cop] [b] pos) (tT Z C XE (.cmp op ma mb)) :=
  PTimp (pt_cmpR ho ha hb hm) fun σ H Q ⟨R, δ, T, fr, st, q⟩ => by
    have q : Out Z C.B XE σ (tst C (.cmp op ma mb) δ T) R H _ := q
    rw [tst_cmp] at q
    refine two fr st q fun x y T2 R2 H2 vx vy e2 f2 s2 px py k2 => ?_
    obtain ⟨k, h1, h2⟩ := k2.opt s2
    exact ⟨R2, T2, x, y, k, s2, px, py, h1, k, rfl, h2⟩
theorem chain_run {op op' : CmpO} {R : Rn} {δ : List MV} {Q : VK} (fr : Frm Z R δ σ) (st : Sto Z R C.B T H) (q : Out Z C.B XE σ (ev C (.chain op op' ma mb mc) δ T) R H (kE Z Q)) : tChain (rCmp Z C op) (rCmp Z C op') (tE Z C XE ma) (tE Z C XE mb) (tE Z C XE mc) σ H Q := by
  simp only [ev] at q
  refine two fr st q fun x y T2 R2 H2 vx vy e2 f2 s2 px py k2 => ?_
  obtain ⟨k, h1, h2⟩ := k2.bind.opt s2
  refine ⟨R2, T2, x, y, k, s2, px, py, h1, k, rfl, ?_⟩
  cases k with
  | false => exact h2.ok s2 _ rp_bl
  | true =>
    refine one f2 s2 h2 fun z T4 R4 H4 vz e4 f4 s4 pz k4 => ?_
    obtain ⟨k', h3, h4⟩ := k4.bind.opt s4
    exact ⟨R4, T4, y, z, k', s4, Rp.mono e4.le _ _ py, pz, h3, h4.ok s4 _ rp_bl⟩
theorem s_chain {cop cop' : CmpOp} {op op' : CmpO} (ho : OpR X (compareOp cop) (rCmp Z C op)) (ho' : OpR X (compareOp cop') (rCmp Z C op')) (ha : PE X a (tE Z C XE ma)) (hb : PE X b (tE Z C XE mb)) (hc : PE X c (tE Z C XE mc))
    (hm : lastMarks [cop, cop'] [b, c] = false := by rfl) : PE X (.Compare a [cop, cop'] [b, c] pos) (tE Z C XE (.chain op op' ma mb mc)) :=
  PEimp (pe_chain ho ho' ha hb hc hm) fun σ H Q ⟨R, δ, T, fr, st, q⟩ => chain_run fr st q
theorem t_chain {cop cop' : CmpOp} {op op' : CmpO} (ho : OpR X (compareOp cop) (rCmp Z C op)) (ho' : OpR X (compareOp cop') (rCmp Z C op')) (ha : PE X a (tE Z C XE ma)) (hb : PE X b (tE Z C XE mb)) (hc : PE X c (tE Z C XE mc))
    (hm : lastMarks [cop, cop'] [b, c] = false := by rfl) : PT X (.Compare a [cop, cop'] [b, c] pos) (tT Z C XE (.chain op op' ma mb mc)) :=
  PTimp (pt_chain ho ho' ha hb hc hm) fun σ H Q ⟨R, δ, T, fr, st, q⟩ => by
    refine chain_run (Q := fun z H' => ∃ k, z = .bl k ∧ Q k H') fr st (q.bind.sto.imp fun x T1 R1 H1 he ⟨e1, s1, k1⟩ v p => ?_)
    obtain ⟨k, h1, h2⟩ := k1.opt s1
    have hb : ∃ r, x = .bl r := by
      simp only [ev] at he
      obtain ⟨x1, T3, he1, he⟩ := bindOk he
      obtain ⟨x2, T4, he2, he⟩ := bindOk he
      obtain ⟨x3, T5, he3, he⟩ := bindOk he
      split at he
      · obtain ⟨x4, T6, he4, he⟩ := bindOk he
        obtain ⟨x5, T7, he5, he⟩ := bindOk he
        cases he; exact ⟨_, rfl⟩
      · cases he; exact ⟨_, rfl⟩
    obtain ⟨r, rfl⟩ := hb
    simp only [Rp] at p
    simp only [truthy, Option.some.injEq] at h1
    exact ⟨k, by rw [p, h1], h2⟩
end
end Mini
end
section
set_option linter.all false
set_option maxRecDepth 100000
set_option maxHeartbeats 2000000
namespace Mini
open PySem PySem.Spec PyProof.Rows L2

/-! ### in, not in -/
theorem dats_mono {n m : Nat} (f : ∀ x : MV, dat n x = true → dat m x = true) (xs : List MV) (h : xs.all (dat n) = true) : xs.all (dat m) = true := by
  rw [List.all_eq_true] at h ⊢
  exact fun x hx => f x (h x hx)
theorem dat_mono : ∀ (n m : Nat), n ≤ m → ∀ x : MV, dat n x = true → dat m x = true
  | n, m, h, .non, _ => by unfold dat; rfl
  | n, m, h, .bl _, _ => by unfold dat; rfl
  | n, m, h, .int _, _ => by unfold dat; rfl
  | n, m, h, .str s, q => by unfold dat at q ⊢; exact q
  | 0, _, _, .tup xs, q => by simp [dat] at q
  | 0, _, _, .lst xs, q => by simp [dat] at q
  | n + 1, 0, h, _, _ => by omega
  | n + 1, m + 1, h, .tup xs, q => by
    simp only [dat] at q ⊢
    exact dats_mono (dat_mono n m (by omega)) xs q
  | n + 1, m + 1, h, .lst xs, q => by
    simp only [dat] at q ⊢
    exact dats_mono (dat_mono n m (by omega)) xs q
  | n + 1, m + 1, _, .undef, q => by simp [dat] at q
  | n + 1, m + 1, _, .dct _ _, q => by simp [dat] at q
  | n + 1, m + 1, _, .ins _ _, q => by simp [dat] at q
  | n + 1, m + 1, _, .ref _ _, q => by simp [dat] at q
  | 0, _, _, .undef, q => by simp [dat] at q
  | 0, _, _, .dct _ _, q => by simp [dat] at q
  | 0, _, _, .ins _ _, q => by simp [dat] at q
  | 0, _, _, .ref _ _, q => by simp [dat] at q
theorem any_pd {a : MV} (ha : a.data = true) : ∀ xs : List MV, xs.all (dat 39) = true → (xs.any fun y => eqv y a) = (toPDs xs).any fun z => PyData.eqv z (toPD a)
  | [], _ => rfl
  | x :: xs, h => by
    rw [List.all_cons, Bool.and_eq_true] at h
    simp only [toPDs, List.any_cons]
    rw [any_pd ha xs h.2, eqv_data (dat_mono 39 40 (by omega) _ h.1) ha]
section
variable {X : Cx} {Z : Zt} {C : Ctx} {XE : XT} {σ : L2.St} {H : Hp} {R : Rn} {T : Layer} {e a b c : PySem.Expr} {ma mb mc : E} {pos : Pos} {pins : List (Addr × Obj)} {s : Shared}
theorem in_run {neg : Bool} {x y : V} {v u : Value} {mx my : MV} {k : Bool} {Q : VK} (hx : XOk X Z C) (I : Inv X pins σ H s) (rx : RelV x v) (ry : RelV y u) (st : Sto Z R C.B T H) (px : Rp Z R mx x) (py : Rp Z R my y) (h : inM C T mx my = some k) (q : Q (.bl (if neg then !k else k)) H) :
    wpAny (model X.prog X.w) X.A (compareOp (if neg then .NotIn else .In) v u) (EP X pins σ Q) X.xe s := by
  unfold inM at h
  split at h
  · rename_i xs hs
    split at h
    · rename_i hd
      rw [Bool.and_eq_true] at hd
      cases h
      obtain ⟨h1, h2⟩ := hd
      have h3 : xs.all (dat 39) = true := by unfold MV.data dat at h2; exact h2
      have hh : (MV.tup xs).data = true := by unfold MV.data dat; exact h3
      obtain ⟨a, vs, rfl, ha, hr⟩ := seqOf_ok st py hs
      rw [any_pd h1 xs h3] at q
      obtain ⟨as, r1⟩ := Dp.reads I _ _ v (hx.K ▸ Dp_data st h1 px) rx
      have sd := shaped_pd h1
      have hu : X.A.units + 65 < cLine := by have := hx.room.un; omega
      rcases ha with ha | ha
      · obtain ⟨bs, r2⟩ := Dp.reads I (.list (toPDs xs)) _ u (.lst (.inl ha) (hx.K ▸ Dps_of st 39 xs vs h3 hr)) ry
        have se : SeqAt.shaped (.list (toPDs xs)) = true := by have := shaped_pd h2; simpa only [toPD] using this
        cases neg
        · exact SeqAt.in_list_reads r2 r1 (SeqAt.canLay_of_shaped se) (SeqAt.canLay_of_shaped sd) (room_in_shaped sd hu) ⟨.bl _, H, I, rfl, q⟩
        · exact SeqAt.notIn_list_reads r2 r1 (SeqAt.canLay_of_shaped se) (SeqAt.canLay_of_shaped sd) (room_in_shaped sd hu) ⟨.bl _, H, I, rfl, q⟩
      · obtain ⟨bs, r2⟩ := Dp.reads I (.tuple (toPDs xs)) _ u (.tup (hx.K ▸ ha) (hx.K ▸ Dps_of st 39 xs vs h3 hr)) ry
        have se : SeqAt.shaped (.tuple (toPDs xs)) = true := by have := shaped_pd hh; simpa only [toPD] using this
        cases neg
        · exact SeqAt.in_tuple_reads r2 r1 (SeqAt.canLay_of_shaped se) (SeqAt.canLay_of_shaped sd) (room_in_shaped sd hu) ⟨.bl _, H, I, rfl, q⟩
        · exact SeqAt.notIn_tuple_reads r2 r1 (SeqAt.canLay_of_shaped se) (SeqAt.canLay_of_shaped sd) (room_in_shaped sd hu) ⟨.bl _, H, I, rfl, q⟩
    · cases h
  · split at h
    · rename_i ks vs hd
      split at h
      · rename_i hk
        cases h
        exact dct_in (neg := neg) (Room.units hx.room) I hx.prog hx.w hx.K st px rx py ry hd hk fun s' I' => ⟨.bl _, H, I', rfl, q⟩
      · cases h
    · cases h
theorem oc_in (hx : XOk X Z C) : OpR X (compareOp .In) (rCmp Z C .in_) := fun pins s σ H x y v u Q I rx ry ⟨R, T, mx, my, k, st, px, py, h, q⟩ => by
  simp only [cmpM] at h
  exact in_run (neg := false) hx I rx ry st px py h q
theorem oc_nin (hx : XOk X Z C) : OpR X (compareOp .NotIn) (rCmp Z C .nin) := fun pins s σ H x y v u Q I rx ry ⟨R, T, mx, my, k, st, px, py, h, q⟩ => by
  simp only [cmpM, Option.map_eq_some_iff] at h
  obtain ⟨k', h, rfl⟩ := h
  exact in_run (neg := true) hx I rx ry st px py h q

/-! ### places -/
theorem atIx_ok {xs : List MV} {vs : List V} {i : Int} {x : MV} (r : Rps Z R xs vs) (h : atIx xs i = some x) : ∃ v, atI vs i = some v ∧ Rp Z R x v := by
  unfold atIx at h
  unfold atI ixN
  rw [r.len]
  by_cases h0 : 0 ≤ i
  · rw [if_pos h0] at h
    obtain ⟨v, h1, h2⟩ := r.get h
    have hl := (List.getElem?_eq_some_iff.mp h).1
    rw [if_pos h0, if_pos (by omega)]
    exact ⟨v, h1, h2⟩
  · rw [if_neg h0] at h
    split at h
    · rename_i h2
      obtain ⟨v, h3, h4⟩ := r.get h
      rw [if_neg h0, if_pos (by omega)]
      exact ⟨v, h3, h4⟩
    · cases h
theorem atIx_any {α : Type} {xs : List α} {i : Int} {x : α} (h : atIx xs i = some x) : atI xs i = some x := by
  unfold atIx at h
  unfold atI ixN
  by_cases h0 : 0 ≤ i
  · rw [if_pos h0] at h ⊢
    have hl := (List.getElem?_eq_some_iff.mp h).1
    rw [if_pos (by omega)]; exact h
  · rw [if_neg h0] at h ⊢
    split at h
    · rename_i h2
      rw [if_pos (by omega)]; exact h
    · cases h
def rIxD (Z : Zt) (C : Ctx) : R2 := fun x y H Q => ∃ R T mx my mv ks vs, Sto Z R C.B T H ∧ Rp Z R mx x ∧ Rp Z R my y ∧ dctOf C T mx = some (ks, vs) ∧ keysOk my ks = true ∧ lookK my ks vs = some mv ∧ ∀ w, Rp Z R mv w → Q w H
theorem ix_dct (hx : XOk X Z C) : IxR X (rIxD Z C) := by
  intro value slice pins s σ H x y v u Q I rx ry h hs
  obtain ⟨R, T, mx, my, mv, ks, vs, st, px, py, h1, h2, h3, q⟩ := h
  obtain ⟨hT, h₂⟩ := dct_get (Room.units hx.room) (Q := fun u' s' => EP X pins σ Q u' s') (E := X.xe) I hx.prog hx.w hx.K st py ry px rx h1 h2 h3 (fun vy uy s' I' ry' py' => ⟨vy, H, I', ry', q _ py'⟩)
  unfold subscriptTail
  refine wpAny_bind ?_
  rw [getitemInPython_of_ne hT.not_modules]
  refine wpAny_bind (wpAny_specialOf hT PySem.F.slot_dict_getitem.lookup ?_)
  have fin : wpAny (model X.prog X.w) X.A (subscripted slice false v u) (fun r s₃ => wpAny (model X.prog X.w) X.A (letTemporaryGo value v r >>= fun _ => pure r) (EP X pins σ Q) X.xe s₃) X.xe s := by
    rw [hs]
    exact wpAny_operating (wpAny_mono h₂ (fun r s₃ h₃ => wpAny_bind (wpAny_letTemporaryGo (wpAny_pure h₃))) fun _ _ x => x)
  first
    | exact wpAny_pure (wpAny_bind fin)
    | exact wpAny_bind (wpAny_pure (wpAny_bind fin))
    | exact wpAny_bind fin
def rIxM (Z : Zt) (C : Ctx) (K : PySem.W.Frag) : R2 := fun x y H Q => (rIxL K x y H Q ∨ rIxT K x y H Q ∨ rIxS x y H Q) ∨ rIxD Z C x y H Q
theorem ix_M (hx : XOk X Z C) : IxR X (rIxM Z C X.K) := ix_seq.or (ix_dct hx)
theorem s_idx (hx : XOk X Z C) (ha : PE X a (tE Z C XE ma)) (hb : PE X b (tE Z C XE mb)) (hs : PlainIx b := by exact fun _ _ => rfl) : PE X (.Subscript a b pos) (tE Z C XE (.idx ma mb)) :=
  PEimp (pe_ix (ix_M hx) ha hb hs) fun σ H Q ⟨R, δ, T, fr, st, q⟩ => by
    simp only [ev] at q
    refine two fr st q fun x y T2 R2 H2 vx vy e2 f2 s2 px py k2 => ?_
    obtain ⟨v, h1, h2⟩ := k2.opt s2
    have h2 : ∀ w, Rp Z R2 v w → Q w H2 := h2
    unfold idxM at h1
    split at h1
    · rename_i xs i hs
      simp only [Rp] at py
      obtain ⟨a, vs, rfl, h3, h4⟩ := seqOf_ok s2 px hs
      obtain ⟨w, h5, h6⟩ := atIx_ok h4 h1
      rcases h3 with h3 | h3
      · exact .inl (.inl ⟨a, vs, i, w, rfl, py, .inl h3, h5, h2 w h6⟩)
      · exact .inl (.inr (.inl ⟨a, vs, i, w, rfl, py, hx.K ▸ h3, h5, h2 w h6⟩))
    · cases h1
    · rename_i hno
      split at h1
      · rename_i _ s i
        split at h1
        · rename_i hz
          rw [Option.map_eq_some_iff] at h1
          obtain ⟨c, h3, rfl⟩ := h1
          simp only [Rp] at px py
          refine .inl (.inr (.inr ⟨_, i, c, px, py, Nat.le_trans (by show s.toArray.size ≤ big; simpa using hz) big_line, ?_, h2 _ (by simp only [Rp])⟩))
          exact atIx_any (by simpa using h3)
        · cases h1
      · split at h1
        · rename_i ks vs hd
          split at h1
          · rename_i hk
            exact .inr ⟨R2, T2, _, _, v, ks, vs, s2, px, py, hd, hk, h1, h2⟩
          · cases h1
        · cases h1
end
end Mini
end
section
set_option linter.all false
set_option maxRecDepth 100000
set_option maxHeartbeats 2000000
namespace Mini
open PySem PySem.Spec PyProof.Rows L2

/-! ### new lists and dicts -/
def MkD (Z : Zt) (R : Rn) (p : Addr) (o : HO) : LD → Prop
  | .lst xs => ∃ vs, o = .lst vs ∧ Rps Z R xs vs
  | .dct ks vs => ∃ ob kv vv, o = AtO p ob ∧ Rps Z R ks kv ∧ Rps Z R vs vv ∧ DctO Z p ob ks vs kv vv
def OutL (Z : Zt) (B : List Layer) (XE : XT) (σ : L2.St) (r : Res LD) (R : Rn) (H : Hp) (Q : VK) : Prop := match r with
  | .ok d T => ∀ p o H' R', Loose R' H' p o → Sto Z R' B T H' → Ext B.length R R' H H' → H p = none → MkD Z R' p o d → Q (.ref p) H'
  | .exc c p T => ∀ H' R', Ext B.length R R' H H' → Sto Z R' B T H' → XE σ c p T R' H'
  | .stuck => False
section
variable {Z : Zt} {B : List Layer} {XE : XT} {σ : L2.St} {R R1 : Rn} {H H1 : Hp} {α : Type} {T : Layer}
theorem OutL.mono {r : Res LD} {Q : VK} (h : OutL Z B XE σ r R H Q) (e : Ext B.length R R1 H H1) (st : Sto Z R B T H) : OutL Z B XE σ r R1 H1 Q := by
  cases r with
  | ok a T => exact fun p o H' R' l s' e' hp m => h p o H' R' l s' (e.trans e') (e.gone hp) m
  | exc c p T => exact fun H' R' e' s' => h H' R' (e.trans e') s'
  | stuck => exact h
theorem OutL.bind {r : Res α} {f : α → Layer → Res LD} {Q : VK} (h : OutL Z B XE σ (r.bind f) R H Q) (st : Sto Z R B T H) : Out Z B XE σ r R H fun a T R' H' => OutL Z B XE σ (f a T) R' H' Q := by
  cases r with
  | ok a T => exact fun H' R' e' s' => OutL.mono (r := f a T) h e' st
  | exc c p T => exact h
  | stuck => exact h
theorem OutL.sized {c : Prop} [Decidable c] {r : Res LD} {Q : VK} (h : OutL Z B XE σ (if c then r else .stuck) R H Q) : c ∧ OutL Z B XE σ r R H Q := by
  by_cases q : c
  · rw [if_pos q] at h; exact ⟨q, h⟩
  · rw [if_neg q] at h; exact h.elim
theorem OutL.new {xs : List MV} {vs : List V} {Q : VK} (h : OutL Z B XE σ (.ok (.lst xs) T) R H Q) (st : Sto Z R B T H) (r : Rps Z R xs vs) {p : Addr} (hp : H p = none) : Q (.ref p) (upd H p (.lst vs)) := by
  obtain ⟨l, s, e⟩ := Loose.new st hp (.lst vs)
  exact h p _ _ R l s e hp ⟨vs, rfl, r⟩
end
def tLD (Z : Zt) (C : Ctx) (XE : XT) (l : L) : TE := fun σ H Q => ∃ R δ T, Frm Z R δ σ ∧ Sto Z R C.B T H ∧ OutL Z C.B XE σ (evL C l δ T) R H Q

section
variable {X : Cx} {Z : Zt} {C : Ctx} {XE : XT} {σ : L2.St} {H : Hp} {R : Rn} {T : Layer} {e a b c : PySem.Expr} {ma mb mc : E} {pos : Pos} {pins : List (Addr × Obj)} {s : Shared} {ml : L}
theorem fz_read : ∀ σ H Q, tE Z C XE (.fz ml) σ H Q → tLD Z C XE ml σ H Q := fun σ H Q ⟨R, δ, T, fr, st, q⟩ => by
  refine ⟨R, δ, T, fr, st, ?_⟩
  simp only [ev] at q
  revert q
  cases evL C ml δ T with
  | stuck => exact fun q => q
  | exc c p T1 => exact fun q => q
  | ok d T1 =>
    intro q p o H' R' l s' e' hp m
    obtain ⟨e2, s2, l2⟩ := l.fz s' e' hp
    refine q _ _ e2 s2 _ ?_
    cases d with
    | lst xs =>
      obtain ⟨vs, rfl, r⟩ := m
      exact rp_lst (.inl upd_same) (Rps.mono l2 _ _ r)
    | dct ks vs =>
      obtain ⟨ob, kv, vv, rfl, r1, r2, dd⟩ := m
      simp only [LD.mv, Rp]
      exact ⟨p, ob, kv, vv, rfl, upd_same, Rps.mono l2 _ _ r1, Rps.mono l2 _ _ r2, dd⟩
theorem cell_read : ∀ σ H Q, tE Z C XE (.cell ml) σ H Q → tLD Z C XE ml σ H Q := fun σ H Q ⟨R, δ, T, fr, st, q⟩ => by
  refine ⟨R, δ, T, fr, st, ?_⟩
  simp only [ev] at q
  revert q
  cases evL C ml δ T with
  | stuck => exact fun q => q
  | exc c p T1 => exact fun q => q
  | ok d T1 =>
    intro q p o H' R' l s' e' hp m
    have hc : ∀ R2, Le R' R2 → CellOk Z R2 H' p d.cell := by
      intro R2 l2
      cases d with
      | lst xs =>
        obtain ⟨vs, rfl, r⟩ := m
        exact ⟨vs, l.at_, Rps.mono l2 _ _ r⟩
      | dct ks vs =>
        obtain ⟨ob, kv, vv, rfl, r1, r2, dd⟩ := m
        exact ⟨ob, kv, vv, l.at_, Rps.mono l2 _ _ r1, Rps.mono l2 _ _ r2, dd⟩
    obtain ⟨e2, s2, _, h1, h2⟩ := l.cell s' e' hp hc
    refine q _ _ e2 s2 _ ?_
    simp only [Rp]
    exact ⟨by rw [h1], h2⟩

theorem s_fz (h : PE X e (tLD Z C XE ml)) : PE X e (tE Z C XE (.fz ml)) := PEimp h fz_read
theorem s_cell (h : PE X e (tLD Z C XE ml)) : PE X e (tE Z C XE (.cell ml)) := PEimp h cell_read
theorem l_disp {es : List PySem.Expr} {mes : Es} (h : PA X es (tEs Z C XE mes)) : PE X (.List es pos) (tLD Z C XE (.disp mes)) := PEimp (pe_lst h) fun σ H Q ⟨R, δ, T, fr, st, q⟩ => by
  simp only [evL] at q
  refine ⟨R, δ, T, fr, st, (q.bind st).sto.imp fun vs T1 R1 H1 _ ⟨e1, s1, k1⟩ xs px => ?_⟩
  obtain ⟨hz, k1⟩ := k1.sized
  exact ⟨by rw [px.len]; exact Nat.le_trans hz big_line, fun p hp => k1.new s1 px hp⟩
theorem oneL {f : MV → Layer → Res LD} {R : Rn} {δ : List MV} {T : Layer} {Q : VK} {r : V → Hp → Prop} (fr : Frm Z R δ σ) (st : Sto Z R C.B T H)
    (ee : OutL Z C.B XE σ ((ev C ma δ T).bind f) R H Q)
    (h : ∀ x T1 R1 H1 vx, Ext C.B.length R R1 H H1 → Frm Z R1 δ σ → Sto Z R1 C.B T1 H1 → Rp Z R1 x vx → OutL Z C.B XE σ (f x T1) R1 H1 Q → r vx H1) :
    tE Z C XE ma σ H r :=
  ⟨R, δ, T, fr, st, (ee.bind st).sto.imp fun x T1 R1 H1 _ ⟨e1, s1, k⟩ vx p => h x T1 R1 H1 vx e1 (fr.mono e1.le) s1 p k⟩
theorem twoL {f : MV → MV → Layer → Res LD} {R : Rn} {δ : List MV} {T : Layer} {Q : VK} {r : V → V → Hp → Prop} (fr : Frm Z R δ σ) (st : Sto Z R C.B T H)
    (ee : OutL Z C.B XE σ ((ev C ma δ T).bind fun x T1 => (ev C mb δ T1).bind fun y T2 => f x y T2) R H Q)
    (h : ∀ x y T2 R2 H2 vx vy, Ext C.B.length R R2 H H2 → Frm Z R2 δ σ → Sto Z R2 C.B T2 H2 → Rp Z R2 x vx → Rp Z R2 y vy → OutL Z C.B XE σ (f x y T2) R2 H2 Q → r vx vy H2) :
    tE Z C XE ma σ H fun x H1 => tE Z C XE mb σ H1 fun y H2 => r x y H2 :=
  oneL fr st ee fun x T1 R1 H1 vx e1 f1 s1 p1 k1 => oneL f1 s1 k1 fun y T2 R2 H2 vy e2 f2 s2 p2 k2 => h x y T2 R2 H2 vx vy (e1.trans e2) f2 s2 (Rp.mono e2.le _ _ p1) p2 k2
theorem l_cat (ha : PE X a (tE Z C XE ma)) (hb : PE X b (tE Z C XE mb)) : PE X (.BinOp a .Add b pos) (tLD Z C XE (.cat ma mb)) := PEimp (pe_op op_catZ ha hb) fun σ H Q ⟨R, δ, T, fr, st, q⟩ => by
  simp only [evL] at q
  refine twoL fr st q fun x y T2 R2 H2 vx vy e2 f2 s2 px py k2 => ?_
  split at k2
  · rename_i xs ys h1 h2
    obtain ⟨hz, k2⟩ := k2.sized
    obtain ⟨a, vs, rfl, h3, h4⟩ := lstOf_ok s2 px h1
    obtain ⟨b, ws, rfl, h5, h6⟩ := lstOf_ok s2 py h2
    exact ⟨a, b, vs, ws, rfl, rfl, h3, h5, by rw [h4.len, h6.len]; exact Nat.le_trans hz big_line, fun p hp => k2.new s2 (Rps.append h4 h6) hp⟩
  · exact k2.elim
def rRepZ : R2 := fun x y H Q => ∃ l k xs, x = .ref l ∧ y = .int k ∧ Rd H l (.lst xs) ∧ -(2 ^ 63) ≤ k ∧ k < 2 ^ 63 ∧ xs.length * k.toNat ≤ sizeLine ∧
  ∀ p, H p = none → Q (.ref p) (upd H p (.lst (List.replicate k.toNat xs).flatten))
theorem op_repZ : OpR X (binaryOp .Mult) rRepZ := by
  intro pins s σ H x y v u Q I rx ry h
  obtain ⟨l, k, xs, rfl, rfl, hH, h1, h2, hz, q⟩ := h
  cases rx
  obtain ⟨t, rfl⟩ := ry
  obtain ⟨z, its, n, r, hl, e⟩ := Rd.lst I hH
  have hlen : its.toArray.size * k.toNat ≤ sizeLine := by rw [List.size_toArray, ← hl]; exact hz
  have hcap : ¬ its.toArray.size * k.toNat > (2 ^ 63 - 1) / 8 := by
    have : (sizeLine : Nat) ≤ (2 ^ 63 - 1) / 8 := by decide
    omega
  have hfit : ¬ (!Builtin.List.listFitsIndex k) = true := by
    rw [fitsIndex_both h1 h2]
    exact Bool.false_ne_true
  have hlong : ¬ Builtin.List.listTooLong (its.toArray.size * k.toNat) = true := by
    rw [notLongL hlen]
    exact Bool.false_ne_true
  have hnew : List.foldl (fun x1 x2 => x1 ++ x2) #[] (List.replicate (if its.toArray.isEmpty = true then 0 else k.toNat) its.toArray) = (List.replicate k.toNat its).flatten.toArray := by
    have f0 : ∀ m : Nat, List.foldl (fun x1 x2 => x1 ++ x2) #[] (List.replicate m its.toArray) = (List.replicate m its).flatten.toArray := fun m => by
      have := foldl_rep its m []
      rw [List.nil_append] at this
      exact this
    rw [f0]
    cases its with
    | nil => simp
    | cons a r' => rw [if_neg (by simp)]
  refine wpAny_binaryOp_repeat_ref (T := "list") (U := "int") (by decide) ⟨_, e, rfl⟩ (fun s' => typeIs_int s' k t) noFill_list_mul F.fills_int_mul F.slot_int_rmul repeat_list F.slot_int_index.lookup
    (call_meets F.slot_int_rmul (typeIs_int s k t) F.entry_int_rmul (F.args_int_rmul_2 _ _) (int___rmul___int_list k t l its.toArray n)
      ⟨e, rfl, ⟨_, e, rfl⟩, call_meets F.slot_list_mul ⟨_, e, rfl⟩ F.entry_list_mul (F.args_list_mul_2 _ _) (AutoListH.list___mul___list_int_3 l its.toArray n k t hfit hcap hlong) ⟨e, ?_⟩⟩)
  rw [hnew]
  exact ⟨.ref _, _, I.lnew (t' := s.toks) (r.rep k.toNat) (by rw [PyProof.Rows.lm_len_rep_flat, Nat.mul_comm]; exact hz), rfl, q _ I.fresh⟩
theorem Rps.rep {xs : List MV} {vs : List V} (r : Rps Z R xs vs) : ∀ n : Nat, Rps Z R (List.replicate n xs).flatten (List.replicate n vs).flatten
  | 0 => Rps.nil
  | n + 1 => by
    rw [List.replicate_succ, List.replicate_succ, List.flatten_cons, List.flatten_cons]
    exact Rps.append r (Rps.rep r n)
theorem l_rep (ha : PE X a (tE Z C XE ma)) (hb : PE X b (tE Z C XE mb)) : PE X (.BinOp a .Mult b pos) (tLD Z C XE (.rep ma mb)) := PEimp (pe_op op_repZ ha hb) fun σ H Q ⟨R, δ, T, fr, st, q⟩ => by
  simp only [evL] at q
  refine twoL fr st q fun x y T2 R2 H2 vx vy e2 f2 s2 px py k2 => ?_
  split at k2
  · rename_i xs j h1
    obtain ⟨⟨hz, h2, h3⟩, k2⟩ := k2.sized
    obtain ⟨a, vs, rfl, h4, h5⟩ := lstOf_ok s2 px h1
    simp only [Rp] at py
    exact ⟨a, j, vs, rfl, py, h4, by omega, by omega, by rw [h5.len]; exact Nat.le_trans hz big_line, fun p hp => k2.new s2 (Rps.rep h5 _) hp⟩
  · exact k2.elim
end
end Mini
end
section
set_option linter.all false
set_option maxRecDepth 100000
set_option maxHeartbeats 2000000
namespace Mini
open PySem PySem.Spec PyProof.Rows L2

/-! ### a dict that is walked is held -/
def Rn.hold (R : Rn) (a : Addr) (o : Obj) : Rn := { R with lk := fun b => if b = a then some o else R.lk b }
def Rn.free (R : Rn) (a : Addr) : Rn := { R with lk := fun b => if b = a then none else R.lk b }
theorem hold_le {R : Rn} {a : Addr} {o : Obj} (h : R.lk a = none) : Le R (R.hold a o) := ⟨fun _ _ h => h, fun _ => Nat.le_refl _, fun _ _ _ => rfl, fun b u q => by
  show (if b = a then some o else R.lk b) = some u
  rw [if_neg (fun e => by subst e; rw [h] at q; cases q)]; exact q⟩
theorem hold_at {R : Rn} {a : Addr} {o : Obj} : (R.hold a o).lk a = some o := if_pos rfl
theorem free_le0 {R : Rn} {a : Addr} : Le0 R (R.free a) := ⟨fun _ _ h => h, fun _ => Nat.le_refl _, fun _ _ _ => rfl⟩
theorem CellOk.notHeld {Z : Zt} {R R' : Rn} {H : Hp} {a : Addr} (e : Le0 R R') (hl : R'.lk a = R.lk a) : ∀ {c : Cell}, CellOk Z R H a c → CellOk Z R' H a c
  | .lst xs, ⟨vs, h, r⟩ => ⟨vs, h, Rps.mono0 e _ _ r⟩
  | .dct ks vs, ⟨o, kv, vv, h, r1, r2, d⟩ => ⟨o, kv, vv, h, Rps.mono0 e _ _ r1, Rps.mono0 e _ _ r2, d⟩
  | .ins c fs, ⟨dx, gs, ws, h, r, f⟩ => ⟨dx, gs, ws, h, Rps.mono0 e _ _ r, f⟩
  | .hold ks vs, ⟨o, kv, vv, k, h, r1, r2, d⟩ => ⟨o, kv, vv, hl.trans k, h, Rps.mono0 e _ _ r1, Rps.mono0 e _ _ r2, d⟩
section
variable {Z : Zt} {B : List Layer} {XE : XT} {σ : L2.St} {R R' : Rn} {H H' : Hp} {T T' : Layer} {k : Nat} {ks vs : List MV} {α : Type}
theorem top_at {c : Cell} (h : T[k]? = some c) : getB B T B.length k = some c := by unfold getB; rw [if_pos rfl]; exact h
theorem Sto.hold (st : Sto Z R B T H) (h : T[k]? = some (.dct ks vs)) : ∃ o kv vv, H (R.φ B.length k) = some (AtO (R.φ B.length k) o) ∧ Rps Z R ks kv ∧ Rps Z R vs vv ∧ DctO Z (R.φ B.length k) o ks vs kv vv ∧ R.lk (R.φ B.length k) = none ∧ Sto Z (R.hold (R.φ B.length k) o) B (holdC T k) H := by
  have hk : k < T.length := (List.getElem?_eq_some_iff.mp h).1
  obtain ⟨hF, o, kv, vv, h1, r1, r2, dd⟩ := st.cell _ _ _ (top_at (B := B) h)
  have hl : R.lk (R.φ B.length k) = none := by
    cases q : R.lk (R.φ B.length k) with
    | none => rfl
    | some u =>
      obtain ⟨l', k', ks', vs', e1, e2⟩ := st.lkC _ _ q
      obtain ⟨rfl, rfl⟩ := st.inj _ _ _ _ (by rw [st.n]; exact getB_lt e2) (by rw [st.n, sz_top]; exact hk) e1
      rw [top_at h] at e2; cases e2
  refine ⟨o, kv, vv, h1, r1, r2, dd, hl, ?_⟩
  have le := hold_le (o := o) hl
  have hh : holdC T k = T.set k (.hold ks vs) := by unfold holdC; rw [h]
  rw [hh]
  refine ⟨st.sub, ?_, fun l' k' c h' => ?_, st.inj, fun b u q => ?_⟩
  · show R.n = _
    rw [st.n]; funext l'; rw [sz_set]
  · rw [getB_set hk] at h'
    by_cases e : l' = B.length ∧ k' = k
    · rw [if_pos e] at h'
      obtain ⟨rfl, rfl⟩ := e
      cases h'
      exact ⟨hF, o, kv, vv, hold_at, h1, Rps.mono le _ _ r1, Rps.mono le _ _ r2, dd⟩
    · rw [if_neg e] at h'
      obtain ⟨h2, h3⟩ := st.cell l' k' c h'
      exact ⟨h2, CellOk.mono le rfl h3⟩
  · have q : (if b = R.φ B.length k then some o else R.lk b) = some u := q
    by_cases e : b = R.φ B.length k
    · exact ⟨B.length, k, ks, vs, e.symm, by rw [getB_set hk, if_pos ⟨rfl, rfl⟩]⟩
    · rw [if_neg e] at q
      obtain ⟨l', k', ks', vs', e1, e2⟩ := st.lkC _ _ q
      refine ⟨l', k', ks', vs', e1, ?_⟩
      rw [getB_set hk, if_neg]
      · exact e2
      · rintro ⟨rfl, rfl⟩
        exact e e1.symm
/-- a held dict is where and what it was -/
theorem Sto.held (st : Sto Z R B T H) {a : Addr} {o : Obj} (h : R.lk a = some o) : H a = some (AtO a o) := by
  obtain ⟨l, k, ks, vs, rfl, h2⟩ := st.lkC a o h
  obtain ⟨_, o', kv, vv, h3, h4, _⟩ := st.cell _ _ _ h2
  rw [h] at h3; cases h3
  exact h4
theorem Sto.free (st : Sto Z R B T H) {o : Obj} (hk : k < R.n B.length) (h : R.lk (R.φ B.length k) = some o) : Sto Z (R.free (R.φ B.length k)) B (freeC T k) H := by
  obtain ⟨l, k', ks, vs, e1, h2⟩ := st.lkC _ o h
  obtain ⟨rfl, rfl⟩ := st.inj _ _ _ _ (by rw [st.n]; exact getB_lt h2) hk e1
  have hT : T[k']? = some (.hold ks vs) := by unfold getB at h2; rw [if_pos rfl] at h2; exact h2
  have hk' : k' < T.length := (List.getElem?_eq_some_iff.mp hT).1
  obtain ⟨hF, o', kv, vv, h3, h4, r1, r2, dd⟩ := st.cell _ _ _ h2
  have hh : freeC T k' = T.set k' (.dct ks vs) := by unfold freeC; rw [hT]
  rw [hh]
  refine ⟨st.sub, ?_, fun l' j c h' => ?_, st.inj, fun b u q => ?_⟩
  · show R.n = _
    rw [st.n]; funext l'; rw [sz_set]
  · rw [getB_set hk'] at h'
    by_cases e : l' = B.length ∧ j = k'
    · rw [if_pos e] at h'
      obtain ⟨rfl, rfl⟩ := e
      cases h'
      exact ⟨hF, o', kv, vv, h4, Rps.mono0 free_le0 _ _ r1, Rps.mono0 free_le0 _ _ r2, dd⟩
    · rw [if_neg e] at h'
      obtain ⟨h5, h6⟩ := st.cell l' j c h'
      refine ⟨h5, CellOk.notHeld free_le0 ?_ h6⟩
      show (if R.φ l' j = _ then none else _) = _
      rw [if_neg fun z => e (st.inj _ _ _ _ (by rw [st.n]; exact getB_lt h') hk z)]
  · have q : (if b = R.φ B.length k' then none else R.lk b) = some u := q
    by_cases e : b = R.φ B.length k'
    · rw [if_pos e] at q; cases q
    · rw [if_neg e] at q
      obtain ⟨l2, k2, ks2, vs2, e3, e4⟩ := st.lkC _ _ q
      refine ⟨l2, k2, ks2, vs2, e3, ?_⟩
      rw [getB_set hk', if_neg]
      · exact e4
      · rintro ⟨rfl, rfl⟩
        exact e e3.symm
theorem lock_out {f : Layer → Res α} {K : α → Layer → Rn → Hp → Prop} (st : Sto Z R B T H) (h : T[k]? = some (.dct ks vs)) (q : Out Z B XE σ (lockR (some k) f T) R H K) :
    ∃ o kv vv, H (R.φ B.length k) = some (AtO (R.φ B.length k) o) ∧ Rps Z R ks kv ∧ Rps Z R vs vv ∧ DctO Z (R.φ B.length k) o ks vs kv vv ∧ Le R (R.hold (R.φ B.length k) o) ∧ Sto Z (R.hold (R.φ B.length k) o) B (holdC T k) H ∧
      ∀ XE', Out Z B XE' σ (f (holdC T k)) (R.hold (R.φ B.length k) o) H fun x T' R' H' => K x (freeC T' k) (R'.free (R.φ B.length k)) H' := by
  have hk : k < R.n B.length := by rw [st.n, sz_top]; exact (List.getElem?_eq_some_iff.mp h).1
  obtain ⟨o, kv, vv, h1, r1, r2, dd, hl, s1⟩ := st.hold h
  refine ⟨o, kv, vv, h1, r1, r2, dd, hold_le hl, s1, fun XE' => ?_⟩
  revert q
  unfold lockR
  simp only
  cases f (holdC T k) with
  | stuck => exact fun q => q
  | exc c p T' => exact fun q => q.elim
  | ok x T' =>
    intro q H' R' e' s'
    have hlk : R'.lk (R.φ B.length k) = some o := e'.le.lk _ _ hold_at
    have hφ : R'.φ B.length k = R.φ B.length k := e'.le.φ _ _ hk
    have s2 := s'.free (k := k) (o := o) (Nat.lt_of_lt_of_le hk (e'.le.n _)) (by rw [hφ]; exact hlk)
    rw [hφ] at s2
    refine q H' _ ⟨⟨e'.le.F, e'.le.n, e'.le.φ, fun b u hb => ?_⟩, e'.keep, e'.new, e'.occ, e'.newF⟩ s2
    have hb2 : b ≠ R.φ B.length k := fun z => by subst z; rw [hl] at hb; cases hb
    show (if b = _ then none else R'.lk b) = some u
    rw [if_neg hb2]
    exact e'.le.lk _ _ ((hold_le hl).lk _ _ hb)
end

/-! ### keys that are walked -/
section
variable {X : Cx} {Z : Zt} {C : Ctx} {XE : XT} {σ : L2.St} {H : Hp} {R : Rn} {T : Layer} {e a b c : PySem.Expr} {ma mb mc : E} {pos : Pos} {pins : List (Addr × Obj)} {s : Shared} {ml : L}
theorem pairs_at {P : Program} {w : World} : ∀ {es : List DictEntry} {kvs : List (Leaf × Value)} {j : Nat} {en : DictEntry}, Pairs (leafKind P w) es kvs → es[j]? = some en → ∃ q, kvs[j]? = some q ∧ (leafKind P w).is q.1 en.key = true ∧ en.val = q.2
  | _, _, _, _, .nil, h => by simp at h
  | _, _, 0, _, .cons h1 h2 t, h => by simp at h; subst h; exact ⟨_, rfl, h1, h2⟩
  | _, _, j + 1, _, .cons h1 h2 t, h => by
    obtain ⟨q, h3, h4⟩ := pairs_at (j := j) t (by simpa using h)
    exact ⟨q, by simpa using h3, h4⟩
theorem pairs_len {P : Program} {w : World} : ∀ {es : List DictEntry} {kvs : List (Leaf × Value)}, Pairs (leafKind P w) es kvs → es.length = kvs.length
  | _, _, .nil => rfl
  | _, _, .cons _ _ t => congrArg (· + 1) (pairs_len t)
theorem vals_at {xs : List V} {us : List Value} (r : Vals xs us) {j : Nat} {u : Value} (h : us[j]? = some u) : ∃ v, xs[j]? = some v ∧ RelV v u := by
  have hl := r.length
  have hj := (List.getElem?_eq_some_iff.mp h).1
  obtain ⟨u', h1, h2⟩ := r.get (i := j) (x := xs[j]'(by omega)) (List.getElem?_eq_getElem (by omega))
  rw [h] at h1; cases h1
  exact ⟨_, List.getElem?_eq_getElem (by omega), h2⟩
theorem dct_keys {a : Addr} {o : Obj} {ks vs : List MV} {kv vv : List V} (r1 : Rps Z R ks kv) (r2 : Rps Z R vs vv) (dd : DctO Z a o ks vs kv vv) (hk : keysIt ks = true) :
    ∃ es ep kv', o.data = .dict es ep ∧ es.size = ks.length ∧ vs.length = ks.length ∧ Rps Z R ks kv' ∧ ∀ (j : Nat) (en : DictEntry), es[j]? = some en → (∃ v, kv'[j]? = some v ∧ RelV v en.key) ∧ ∃ w, vv[j]? = some w ∧ RelV w en.val := by
  rcases dd.ents with h | h
  · obtain ⟨es, ep, xs, h1, h2, h3, h4, h5, h6, h7⟩ := h
    have hn := keysOf_len h4
    rw [List.length_map] at hn
    refine ⟨es, ep, kv, h1, by rw [size_of_entries h2]; exact hn, ?_, r1, fun j en hj => ?_⟩
    · have := h6.length
      rw [List.length_map] at this
      rw [← r2.len]; omega
    · rw [entry_at h2] at hj
      cases hx : xs[j]? with
      | none => rw [hx] at hj; cases hj
      | some x =>
        rw [hx] at hj
        cases hj
        refine ⟨⟨.ref x.2.1, by rw [h5, List.getElem?_map, hx]; rfl, rfl⟩, ?_⟩
        exact vals_at h6 (by rw [List.getElem?_map, hx]; rfl)
  · have ht := h.tups
    obtain ⟨es, ep, kvs, h1, h2, h3, h4, h5, h6⟩ := h
    have hn := keysOf_len h5
    rw [List.length_map] at hn
    have hs : es.size = kvs.length := by rw [← Array.length_toList]; exact pairs_len h3
    refine ⟨es, ep, ks.map leafV, h1, by rw [hs]; exact hn, ?_, leafV_ok h5 ht, fun j en hj => ?_⟩
    · have := h6.length
      rw [List.length_map] at this
      rw [← r2.len]; omega
    · rw [← Array.getElem?_toList] at hj
      obtain ⟨q, g1, g2, g3⟩ := pairs_at h3 hj
      obtain ⟨x, g4, g5⟩ := keysOf_of h5 (i := j) (k := q.1.key) (by rw [List.getElem?_map, g1]; rfl)
      have hstr : isStr x = true := by
        unfold keysIt at hk
        rw [Bool.or_eq_true] at hk
        have hm := List.mem_of_getElem? g4
        rcases hk with hk | hk
        · have a1 := List.all_eq_true.mp hk x hm
          have a2 := List.all_eq_true.mp ht x hm
          simp only [a1] at a2; cases a2
        · exact List.all_eq_true.mp hk x hm
      refine ⟨⟨leafV x, by rw [List.getElem?_map, g4]; rfl, ?_⟩, vals_at h6 (by rw [List.getElem?_map, g1, g3]; rfl)⟩
      cases x <;> simp only [isStr] at hstr <;> try cases hstr
      rename_i z
      simp only [keyOf, Option.some.injEq] at g5
      obtain ⟨l, v⟩ := q
      cases l with
      | none => cases g5
      | num i => cases g5
      | text y =>
        obtain ⟨u, hu⟩ := Value.isStrOf_shape (show Value.isStrOf y en.key = true from g2)
        simp only [Leaf.key, NestedKey.text.injEq] at g5
        subst g5
        exact ⟨u, hu⟩

/-! ### list(x) -/
def rListM (Z : Zt) (C : Ctx) (K : PySem.W.Frag) : List V → Hp → VK → Prop := fun xs H Q => (∃ p ys, xs = [.ref p] ∧ (SqL K H p ys ∨ SqT K H p ys) ∧ ∀ l, H l = none → Q (.ref l) (upd H l (.lst ys))) ∨
  (∃ R T mx x ks vs, xs = [x] ∧ Sto Z R C.B T H ∧ Rp Z R mx x ∧ dctOf C T mx = some (ks, vs) ∧ keysIt ks = true ∧ ∀ p kv, H p = none → Rps Z R ks kv → Q (.ref p) (upd H p (.lst kv)))
theorem call_listM (hx : XOk X Z C) : CallR X (.type "list") (rListM Z C X.K) := CallR.or call_list_of (by
  intro pins s σ H xs us Q I r h
  obtain ⟨R, T, mx, x, ks, vs, rfl, st, px, hd, hk, q⟩ := h
  obtain ⟨u, rfl, rx⟩ := r.one
  obtain ⟨a, o, kv, vv, rfl, ho, r1, r2, dd⟩ := dctOf_ok st px hd
  cases rx
  obtain ⟨es, ep, kv', hdt, hes, _, r3, hat⟩ := dct_keys r1 r2 dd hk
  have hg : s.heap.get? a = some o := (I.hok a _ ho).1
  have hz : es.size ≤ sizeLine := by rw [hes]; exact Nat.le_trans dd.sz (by rw [sizeLine_eq]; decide)
  refine PySem.W.kdl_call (kdl_raw dd.ns dd.ex hdt) (I.ok.hd hx.calm) hg hz fun h' tk acc' c' kp e it => ?_
  have hl : kv'.length = acc'.toList.length := by
    have h1 := it.1
    have h2 : acc'.toList.length = acc'.size := Array.length_toList
    rw [r3.len]; omega
  have rv : Vals kv' acc'.toList := vals_of_at hl fun j x u h1 h2 => by
    rw [Array.getElem?_toList] at h2
    obtain ⟨en, h3, rfl⟩ := it.2 j u h2
    obtain ⟨⟨v, h4, h5⟩, _⟩ := hat j en h3
    rw [h1] at h4; cases h4
    exact h5
  refine ⟨.ref s.heap.objs.size, _, I.laid (t' := tk) (o := .lst kv') kp (Nat.le_refl _) ?_, rfl, q _ _ (I.hok.fresh (Nat.le_refl _)) r3⟩
  exact ⟨by rw [r3.len, ← hes]; exact hz, acc'.toList, c', rv, by rw [Array.toArray_toList]; exact e⟩)
theorem l_list {p : Pos} (hx : XOk X Z C) (hg : Gl X "list") (hm : X.mg "list" = none) (ha : PE X a (tE Z C XE ma)) (hs : starEach [a] X.env = (false, eval a X.env) :: starEach [] X.env := by rfl) : PE X (.Call (.Name "list" p) [a] [] pos) (tLD Z C XE (.list ma)) :=
  PEimp (pe_callTy (call_listM hx) hg hm boot_list (pa_cons ha pa_nil hs) (by decide) (by decide) hs) fun σ H Q ⟨R, δ, T, fr, st, q⟩ => by
    simp only [evL] at q
    refine oneL fr st q fun x T1 R1 H1 vx e1 f1 s1 p1 k1 => ?_
    split at k1
    · rename_i xs h
      obtain ⟨a, vs, rfl, h1, h2⟩ := seqOf_ok s1 p1 h
      exact .inl ⟨a, vs, rfl, h1.imp (fun h => .inl h) (fun h => hx.K ▸ h), fun l hl => k1.new s1 h2 hl⟩
    · split at k1
      · rename_i ks vs h
        obtain ⟨hk, k1⟩ := k1.sized
        exact .inr ⟨R1, T1, x, vx, ks, vs, rfl, s1, p1, h, hk, fun p kv hp r => k1.new s1 r hp⟩
      · exact k1.elim
end
end Mini
end
section
set_option linter.all false
set_option maxRecDepth 100000
set_option maxHeartbeats 2000000
namespace Mini
open PySem PySem.Spec PyProof.Rows L2

/-! ### what is assigned to -/
theorem Frm.set {Z : Zt} {R : Rn} {δ : List MV} {σ : L2.St} (h : Frm Z R δ σ) {x : MV} {v : V} (p : Rp Z R x v) (i : Nat) : Frm Z R (δ.set i x) (σ.set i (some v)) := by
  refine ⟨by rw [List.length_set, List.length_set]; exact h.1, fun j y hy => ?_⟩
  by_cases e : i = j
  · subst e
    have hl : i < δ.length := by
      have := (List.getElem?_eq_some_iff.mp hy).1
      rwa [List.length_set] at this
    rw [List.getElem?_set_self hl] at hy
    cases hy
    rw [List.getElem?_set_self (by rw [← h.1]; exact hl)]
    cases x <;> first | trivial | exact ⟨v, rfl, p⟩
  · rw [List.getElem?_set_ne e] at hy
    rw [List.getElem?_set_ne e]
    exact h.2 j y hy
/-- alike but at some names -/
def Agree (is : List Nat) (σ σ' : L2.St) : Prop := σ'.length = σ.length ∧ ∀ i : Nat, i ∉ is → σ'[i]? = σ[i]?
theorem Agree.trans {is js : List Nat} {σ σ1 σ2 : L2.St} (a : Agree is σ σ1) (b : Agree js σ1 σ2) : Agree (is ++ js) σ σ2 :=
  ⟨b.1.trans a.1, fun i hi => by rw [List.mem_append, not_or] at hi; exact (b.2 i hi.2).trans (a.2 i hi.1)⟩
theorem Agree.wipe {is vs : List Nat} {σ σ' : L2.St} (a : Agree is σ σ') (h : ∀ i ∈ is, i ∈ vs) : L2.wipe σ' vs = L2.wipe σ vs := by
  have key : ∀ (τ τ' : L2.St), τ'.length = τ.length → (∀ i : Nat, i ∉ vs → τ'[i]? = τ[i]?) → ∀ i : Nat, (L2.wipe τ' vs)[i]? = (L2.wipe τ vs)[i]? := by
    intro τ τ' hl ho i
    by_cases hi : i ∈ vs
    · have none_in : ∀ (us : List Nat) (τ : L2.St), i ∈ us → i < τ.length → (L2.wipe τ us)[i]? = some none := by
        intro us
        induction us with
        | nil => intro τ h; cases h
        | cons u us ih =>
          intro τ hm hlt
          unfold L2.wipe
          by_cases e : u = i
          · subst e; rw [List.getElem?_set_self (by rw [wipe_length]; exact hlt)]
          · rw [List.getElem?_set_ne e]
            exact ih τ (by rcases List.mem_cons.mp hm with z | z; exact absurd z.symm e; exact z) hlt
      by_cases hlt : i < τ.length
      · rw [none_in vs τ hi hlt, none_in vs τ' hi (by omega)]
      · rw [List.getElem?_eq_none (by rw [wipe_length]; omega), List.getElem?_eq_none (by rw [wipe_length]; omega)]
    · rw [wipe_out hi, wipe_out hi]
      exact ho i hi
  exact List.ext_getElem? (key σ σ' a.1 fun i hi => a.2 i fun z => hi (h i z))
def tG (Z : Zt) (C : Ctx) (XE : XT) (t : Tg) : TG := fun v σ H Q => ∃ R δ T x, Frm Z R δ σ ∧ Sto Z R C.B T H ∧ Rp Z R x v ∧ Out Z C.B XE σ (asg C t x δ T) R H fun δ' _ R' H' => ∀ σ', Frm Z R' δ' σ' → Agree t.own σ σ' → Q σ' H'
def tGs (Z : Zt) (C : Ctx) (XE : XT) (ts : Tgs) : TGs := fun vs σ H Q => ∃ R δ T xs, Frm Z R δ σ ∧ Sto Z R C.B T H ∧ Rps Z R xs vs ∧ Out Z C.B XE σ (asgs C ts xs δ T) R H fun δ' _ R' H' => ∀ σ', Frm Z R' δ' σ' → Agree ts.own σ σ' → Q σ' H'
/-- outcomes whatever the names -/
abbrev anyX (XE : XT) : XT := fun _ c p T R H => ∀ σ, XE σ c p T R H
theorem Out.σ {Z : Zt} {B : List Layer} {XE : XT} {σ σ' : L2.St} {R : Rn} {H : Hp} {α : Type} {r : Res α} {K : α → Layer → Rn → Hp → Prop} (h : Out Z B (anyX XE) σ r R H K) : Out Z B (anyX XE) σ' r R H K := by
  cases r with
  | ok a T => exact h
  | exc c p T => exact h
  | stuck => exact h
theorem Out.X {Z : Zt} {B : List Layer} {XE : XT} {σ : L2.St} {R : Rn} {H : Hp} {α : Type} {r : Res α} {K : α → Layer → Rn → Hp → Prop} (h : Out Z B (anyX XE) σ r R H K) : Out Z B XE σ r R H K := by
  cases r with
  | ok a T => exact h
  | exc c p T => exact fun H' R' e s => h H' R' e s σ
  | stuck => exact h
section
variable {X : Cx} {Z : Zt} {C : Ctx} {XE : XT} {σ : L2.St} {H : Hp} {R : Rn} {T : Layer} {e a b c : PySem.Expr} {ma mb mc : E} {pos : Pos} {pins : List (Addr × Obj)} {s : Shared}
theorem PGimp {t t' : TG} (h : PG X e t) (w : ∀ v σ H Q, t' v σ H Q → t v σ H Q) : PG X e t' := ⟨fun pins s σ H v u Q I r q => h.run pins s σ H v u Q I r (w v σ H Q q)⟩
theorem PGsimp {es : List PySem.Expr} {t t' : TGs} (h : PGs X es t) (w : ∀ v σ H Q, t' v σ H Q → t v σ H Q) : PGs X es t' := ⟨fun pins s σ H v u Q I r q => h.run pins s σ H v u Q I r (w v σ H Q q)⟩
theorem g_name {i : Nat} (h : PG X e (gName i)) : PG X e (tG Z C XE (.name i)) := PGimp h fun v σ H Q ⟨R, δ, T, x, fr, st, p, q⟩ => by
  simp only [asg] at q
  exact q.ok st _ (fr.set p i) ⟨List.length_set, fun j hj => List.getElem?_set_ne fun e => hj (by subst e; exact List.mem_singleton.mpr rfl)⟩
theorem gs_nil : PGs X [] (tGs Z C XE .nil) := PGsimp pgs_nil fun v σ H Q ⟨R, δ, T, xs, fr, st, p, q⟩ => by
  cases xs with
  | nil =>
    simp only [asgs] at q
    simp only [Rps] at p
    exact ⟨p, q.ok st _ fr ⟨rfl, fun _ _ => rfl⟩⟩
  | cons x xs => simp only [asgs] at q; exact q.elim
theorem gs_cons {es : List PySem.Expr} {t : Tg} {ts : Tgs} (h1 : PG X e (tG Z C (anyX XE) t)) (h2 : PGs X es (tGs Z C (anyX XE) ts)) (hs : (assignEach (e :: es) X.env).map (·.2) = assign e X.env :: (assignEach es X.env).map (·.2) := by rfl) : PGs X (e :: es) (tGs Z C (anyX XE) (.cons t ts)) :=
  PGsimp (pgs_cons h1 h2 hs) fun v σ H Q ⟨R, δ, T, xs, fr, st, p, q⟩ => by
    cases xs with
    | nil => simp only [asgs] at q; exact q.elim
    | cons x xs =>
      simp only [asgs] at q
      simp only [Rps] at p
      obtain ⟨v, r, rfl, p1, p2⟩ := p
      exact ⟨v, r, rfl, R, δ, T, x, fr, st, p1, q.bind.sto.imp fun δ' T' R' H' _ ⟨e', s', k⟩ σ' f' ag => ⟨R', δ', T', xs, f', s', Rps.mono e'.le _ _ p2, k.σ.imp fun δ2 T2 R2 H2 _ k2 σ2 f2 ag2 => k2 σ2 f2 (ag.trans ag2)⟩⟩
theorem g_tup {es : List PySem.Expr} {k n : Nat} {ts : Tgs} (hx : XOk X Z C) (h : PGs X es (tGs Z C XE ts)) (hn : (assignEach es X.env).length = n := by rfl) (hst : (assignEach es X.env).findIdx? (·.1) = none := by rfl) (hl : ts.len = n := by rfl) : PG X (.Tuple es k pos) (tG Z C XE (.tup ts)) :=
  PGimp (pg_tup hx.calm h hn hst) fun v σ H Q ⟨R, δ, T, x, fr, st, p, q⟩ => by
    simp only [asg] at q
    split at q
    · rename_i xs
      simp only [Rp] at p
      obtain ⟨a, vs, rfl, h1, h2⟩ := p
      obtain ⟨hz, q⟩ := q.sized
      exact ⟨a, vs, rfl, hx.K ▸ st.sqT h1, by rw [h2.len, hz, hl], R, δ, T, xs, fr, st, h2, q⟩
    · exact q.elim
end
end Mini
end
section
set_option linter.all false
set_option maxRecDepth 100000
set_option maxHeartbeats 2000000
namespace Mini
open PySem PySem.Spec PyProof.Rows L2

/-! ### attributes -/
/-- what must be true of the classes -/
structure Zok (Z : Zt) : Prop where
  cls : ∀ (c : Nat) (cd : Cls), Z.P.cls[c]? = some cd → L2.Cls Z.K (Z.G.cls c)
  na : ∀ (c : Nat) (cd : Cls) (f : Nat), Z.P.cls[c]? = some cd → f ∈ cd.flds → NoAttr Z.K (Z.G.cls c) (Z.G.nm f)
  inj : ∀ (c : Nat) (cd : Cls) (f g : Nat), Z.P.cls[c]? = some cd → f ∈ cd.flds → g ∈ cd.flds → Z.G.nm f = Z.G.nm g → f = g
  nd : ∀ (c : Nat) (cd : Cls), Z.P.cls[c]? = some cd → cd.flds.Nodup
  few : ∀ (c : Nat) (cd : Cls), Z.P.cls[c]? = some cd → cd.flds.length ≤ 100
theorem cnt_le : ∀ fs : List MV, cnt fs ≤ fs.length
  | [] => Nat.le_refl _
  | x :: r => by
    have := cnt_le r
    cases x <;> simp only [cnt, List.length_cons] <;> omega
theorem cnt_set_new {v : MV} (hv : v ≠ .undef) : ∀ (fs : List MV) (j : Nat), fs[j]? = some .undef → cnt (fs.set j v) = cnt fs + 1
  | [], j, h => by simp at h
  | x :: r, 0, h => by
    simp at h; subst h
    cases v <;> first | exact absurd rfl hv | rfl
  | x :: r, j + 1, h => by
    have := cnt_set_new hv r j (by simpa using h)
    cases x <;> simp only [List.set_cons_succ, cnt, this]
theorem cnt_set_old {v x : MV} (hv : v ≠ .undef) (hx : x ≠ .undef) : ∀ (fs : List MV) (j : Nat), fs[j]? = some x → cnt (fs.set j v) = cnt fs
  | [], j, h => by simp at h
  | y :: r, 0, h => by
    simp at h; subst h
    cases v <;> cases y <;> first | exact absurd rfl hv | exact absurd rfl hx | rfl
  | y :: r, j + 1, h => by
    have := cnt_set_old hv hx r j (by simpa using h)
    cases y <;> simp only [List.set_cons_succ, cnt, this]
theorem length_putF_old {f : Str} {v u : V} : ∀ {gs : List (Str × V)}, gs.lookup f = some u → (putF f v gs).length = gs.length
  | [], h => by cases h
  | (g, x) :: r, h => by
    unfold putF
    by_cases e : g = f
    · rw [if_pos e]; rfl
    · rw [if_neg e]
      rw [List.lookup_cons] at h
      have hb : (f == g) = false := beq_eq_false_iff_ne.mpr fun z => e z.symm
      rw [hb] at h
      simp only [List.length_cons]
      rw [length_putF_old h]
theorem idx_at {α : Type} [BEq α] [LawfulBEq α] {l : List α} {a : α} {j : Nat} (h : l.idxOf? a = some j) : l[j]? = some a ∧ ∀ i, i < j → l[i]? ≠ some a := by
  unfold List.idxOf? at h
  rw [List.findIdx?_eq_some_iff_getElem] at h
  obtain ⟨h1, h2, h3⟩ := h
  refine ⟨by rw [List.getElem?_eq_getElem h1]; exact congrArg some (eq_of_beq h2), fun i hi e => ?_⟩
  have := h3 i hi
  rw [List.getElem?_eq_getElem (by omega)] at e
  have e2 := Option.some.inj e
  rw [e2] at this
  simp at this
section
variable {X : Cx} {Z : Zt} {C : Ctx} {XE : XT} {σ : L2.St} {H : Hp} {R : Rn} {T : Layer} {e a b c : PySem.Expr} {ma mb mc : E} {pos : Pos} {pins : List (Addr × Obj)} {s : Shared}
theorem FldR.get {c j f : Nat} {cd : Cls} {fs : List MV} {ws : List V} {gs : List (Str × V)} {x : MV} (h : FldR Z c fs ws gs) (r : Rps Z R fs ws) (hc : Z.P.cls[c]? = some cd) (hj : cd.flds.idxOf? f = some j) (hx : fs[j]? = some x) (hu : x ≠ .undef) :
    ∃ v, gs.lookup (Z.G.nm f) = some v ∧ Rp Z R x v := by
  obtain ⟨cd', h1, h2, h3, h4⟩ := h.flds
  rw [hc] at h1; cases h1
  obtain ⟨v, h5, h6⟩ := r.get hx
  have := h3 j f x v (idx_at hj).1 hx h5
  cases x <;> first | exact absurd rfl hu | exact ⟨v, this, h6⟩
theorem FldR.put {c j f : Nat} {cd : Cls} {fs : List MV} {ws : List V} {gs : List (Str × V)} {x : MV} {v : V} (zok : Zok Z) (h : FldR Z c fs ws gs) (r : Rps Z R fs ws) (hc : Z.P.cls[c]? = some cd) (hj : cd.flds.idxOf? f = some j) (hu : x ≠ .undef) :
    FldR Z c (fs.set j x) (ws.set j v) (putF (Z.G.nm f) v gs) := by
  obtain ⟨cd', h1, h2, h3, h4⟩ := h.flds
  rw [hc] at h1; cases h1
  obtain ⟨hf, hfirst⟩ := idx_at hj
  have hjl : j < fs.length := by rw [← h2]; exact (List.getElem?_eq_some_iff.mp hf).1
  have hjw : j < ws.length := by rw [r.len]; exact hjl
  refine ⟨⟨cd, hc, by rw [List.length_set]; exact h2, fun j' f' x' v' e1 e2 e3 => ?_, fun m u hm => ?_⟩, ?_⟩
  · by_cases hjj : j = j'
    · subst hjj
      rw [hf] at e1; cases e1
      rw [List.getElem?_set_self hjl] at e2; cases e2
      rw [List.getElem?_set_self hjw] at e3; cases e3
      have hl : (putF (Z.G.nm f) v gs).lookup (Z.G.nm f) = some v := by rw [lookup_putF, if_pos rfl]
      cases x <;> first | trivial | exact hl
    · rw [List.getElem?_set_ne hjj] at e2 e3
      have old := h3 j' f' x' v' e1 e2 e3
      by_cases hff : f' = f
      · subst hff
        exact absurd ((List.getElem?_inj (List.getElem?_eq_some_iff.mp hf).1 (zok.nd c cd hc)).mp (hf.trans e1.symm)) hjj
      · have hne : ¬ Z.G.nm f' = Z.G.nm f := fun z => hff (zok.inj c cd f' f hc (List.mem_of_getElem? e1) (List.mem_of_getElem? hf) z)
        cases x' <;> first | trivial | (rw [lookup_putF, if_neg hne]; exact old)
  · rw [lookup_putF] at hm
    by_cases e : m = Z.G.nm f
    · exact ⟨f, List.mem_of_getElem? hf, e.symm⟩
    · rw [if_neg e] at hm
      exact h4 m u hm
  · have hx0 : fs[j]? = some fs[j] := List.getElem?_eq_getElem hjl
    by_cases hz : fs[j] = .undef
    · rw [hz] at hx0
      rw [cnt_set_new hu fs j hx0]
      exact Nat.le_trans (length_putF _ _ _) (Nat.succ_le_succ h.small)
    · rw [cnt_set_old hu hz fs j hx0]
      obtain ⟨u, h5, _⟩ := h.get r hc hj hx0 hz
      rw [length_putF_old h5]
      exact h.small
theorem getFld (zok : Zok Z) {cp f : Nat} {x y : MV} {vx : V} (st : Sto Z R C.B T H) (px : Rp Z R x vx) {fs : List MV} {cd : Cls} {j : Nat} (h1 : insOf C T x = some (cp, fs)) (h2 : Z.P.cls[cp]? = some cd) (h3 : cd.flds.idxOf? f = some j) (h4 : fs[j]? = some y) (hu : y ≠ .undef) :
    ∃ a dx gs v, vx = .ref a ∧ H a = some (.ins (Z.G.cls cp) dx gs) ∧ L2.Cls Z.K (Z.G.cls cp) ∧ NoAttr Z.K (Z.G.cls cp) (Z.G.nm f) ∧ gs.lookup (Z.G.nm f) = some v ∧ Rp Z R y v := by
  obtain ⟨a, dx, gs, ws, rfl, e1, e2, e3⟩ := insOf_ok st px h1
  obtain ⟨v, e4, e5⟩ := e3.get e2 h2 h3 h4 hu
  exact ⟨a, dx, gs, v, rfl, e1, zok.cls _ _ h2, zok.na _ _ _ h2 (List.mem_of_getElem? (idx_at h3).1), e4, e5⟩
/-- a plain attribute -/
theorem s_fld {f : Nat} {nm : Str} {kp : Bool} (hx : XOk X Z C) (zok : Zok Z) (hn : Z.G.nm f = nm) (hp : (Z.P.cls.all fun cd => (cd.props.lookup f).isNone) = true) (ha : PE X e (tE Z C XE ma)) (hb : attributeBase e nm X.env (eval e X.env) = eval e X.env := by rfl) : PE X (.Attribute e nm pos) (tE Z C XE (.fld kp ma f)) :=
  PEimp (pe_fld ha hb) fun σ H Q ⟨R, δ, T, fr, st, q⟩ => by
    simp only [ev] at q
    refine one fr st q fun x T1 R1 H1 vx e1 f1 s1 p1 k1 => ?_
    split at k1
    · rename_i c fs h1
      split at k1
      · rename_i cd h2
        rw [hx.P] at h2
        have hpn : cd.props.lookup f = none := by
          have := List.all_eq_true.mp hp cd (List.mem_of_getElem? h2)
          simpa using this
        rw [hpn] at k1
        simp only at k1
        split at k1
        · rename_i j h3
          split at k1
          · exact k1.elim
          · rename_i y hu h4
            obtain ⟨a, dx, gs, v, rfl, g1, g2, g3, g4, g5⟩ := getFld zok s1 p1 h1 h2 h3 h4 (fun z => by subst z; exact hu rfl)
            subst hn
            exact ⟨a, _, dx, gs, v, rfl, g1, hx.K ▸ g2, hx.K ▸ g3, g4, k1.ok s1 v g5⟩
          · exact k1.elim
        · exact k1.elim
      · exact k1.elim
    · exact k1.elim
/-- an attribute that is written -/
theorem putFld_ok (hx : XOk X Z C) (zok : Zok Z) {f : Nat} {x y : MV} {vx vy : V} {T' : Layer} (st : Sto Z R C.B T H) (px : Rp Z R x vx) (py : Rp Z R y vy) (h : putFld C T x f y = some T') :
    ∃ cp a dx gs, vx = .ref a ∧ H a = some (.ins (Z.G.cls cp) dx gs) ∧ L2.Cls Z.K (Z.G.cls cp) ∧ NoAttr Z.K (Z.G.cls cp) (Z.G.nm f) ∧ gs.length < 1000 ∧
      Ext C.B.length R R H (upd H a (.ins (Z.G.cls cp) dx (putF (Z.G.nm f) vy gs))) ∧ Sto Z R C.B T' (upd H a (.ins (Z.G.cls cp) dx (putF (Z.G.nm f) vy gs))) := by
  unfold putFld at h
  split at h
  · rename_i l k
    split at h
    · rename_i cp fs h1
      split at h
      · rename_i cd h2
        rw [hx.P] at h2
        split at h
        · rename_i j h3
          split at h
          · cases h
          · rename_i hu
            have hu : y ≠ .undef := fun z => hu z
            obtain ⟨rfl, hk, rfl⟩ := setC_ok h
            simp only [Rp] at px
            obtain ⟨rfl, hk2⟩ := px
            obtain ⟨_, dx, gs, ws, g1, g2, g3⟩ := st.cellAt h1
            have hlen : gs.length < 1000 := by
              have a1 := g3.small
              have a2 := cnt_le fs
              obtain ⟨cd', b1, b2, _⟩ := g3.flds
              have a3 := zok.few _ _ b1
              omega
            have hnh : ∀ ks vs, T[k]? ≠ some (.hold ks vs) := fun ks vs z => by
              unfold Ctx.get getB at h1
              rw [if_pos rfl, z] at h1
              cases h1
            obtain ⟨e1, s1⟩ := st.setc (j := k) (o := .ins (Z.G.cls cp) dx (putF (Z.G.nm f) vy gs)) (c := .ins cp (fs.set j y)) hk hnh ⟨dx, _, ws.set j vy, upd_same, Rps.set j g2 py, g3.put zok g2 h2 h3 hu⟩
            exact ⟨cp, _, dx, gs, rfl, g1, zok.cls _ _ h2, zok.na _ _ _ h2 (List.mem_of_getElem? (idx_at h3).1), hlen, e1, s1⟩
        · cases h
      · cases h
    · cases h
  · cases h
theorem pg_attr {o : PySem.Expr} {f : Str} {to : TE} (ho : PE X o to) : PG X (.Attribute o f pos) (fun v σ H Q => to σ H fun x H1 => ∃ a C dx gs, x = .ref a ∧ H1 a = some (.ins C dx gs) ∧ L2.Cls X.K C ∧ NoAttr X.K C f ∧ gs.length < 1000 ∧ Q σ (upd H1 a (.ins C dx (putF f v gs)))) := by
  refine ⟨fun pins s σ H v u Q I r h => ?_⟩
  have ha : assign (.Attribute o f pos) X.env u = (do
    let ov ← holding [u] (eval o X.env)
    standAt pos.atName
    holding [u, ov] (setAttr ov f u)
    release [u, ov] []) := rfl
  rw [ha]
  refine wpAny_bind (wpAny_holding (thn (ho.run pins s σ H _ I h) fun ov s1 ⟨x, H1, I1, r1, a, C, dx, gs, ex, h1, h2, h3, h4, q⟩ => ?_))
  subst ex
  obtain rfl : ov = Value.ref a := r1
  refine wpAny_bind (wpAny_standAt (wpAny_bind (wpAny_holding (setattr_ok I1 h1 h2 h3 h4 r fun s3 I3 => ?_))))
  exact wpAny_release ⟨σ, _, I3, q⟩
theorem g_fld {f : Nat} {nm : Str} (hx : XOk X Z C) (zok : Zok Z) (hn : Z.G.nm f = nm) (ha : PE X e (tE Z C XE ma)) : PG X (.Attribute e nm pos) (tG Z C XE (.fld ma f)) :=
  PGimp (pg_attr ha) fun v σ H Q ⟨R, δ, T, x, fr, st, p, q⟩ => by
    simp only [asg] at q
    refine one fr st q fun y T1 R1 H1 vy e1 f1 s1 p1 k1 => ?_
    obtain ⟨T2, h1, k2⟩ := k1.optB
    obtain ⟨cp, a, dx, gs, rfl, g1, g2, g3, g4, e2, s2⟩ := putFld_ok hx zok s1 p1 (Rp.mono e1.le _ _ p) h1
    subst hn
    exact ⟨a, _, dx, gs, rfl, g1, hx.K ▸ g2, hx.K ▸ g3, g4, k2 _ _ e2 s2 σ f1 ⟨rfl, fun _ _ => rfl⟩⟩
end
end Mini
end
section
set_option linter.all false
set_option maxRecDepth 100000
set_option maxHeartbeats 2000000
namespace Mini
open PySem PySem.Spec PyProof.Rows L2

/-! ### o[i] = x -/
theorem ixOf_ok {n : Nat} {i : Int} {j : Nat} (h : ixOf n i = some j) : ixN n i = some j := by
  unfold ixOf at h
  unfold ixN
  split at h
  · rename_i h0
    rw [if_pos h0]
    split at h
    · rename_i h1; rw [if_pos h1]; exact h
    · cases h
  · rename_i h0
    rw [if_neg h0]
    split at h
    · rename_i h1; rw [if_pos (by omega)]; exact h
    · cases h
section
variable {X : Cx} {Z : Zt} {C : Ctx} {XE : XT} {σ : L2.St} {H : Hp} {R : Rn} {T : Layer} {e a b c : PySem.Expr} {ma mb mc : E} {pos : Pos} {pins : List (Addr × Obj)} {s : Shared}
theorem top_cell {l k : Nat} {c : Cell} (hl : l = C.B.length) (h : C.get T l k = some c) : T[k]? = some c := by
  unfold Ctx.get getB at h
  rw [if_pos hl] at h; exact h
def rSetM (Z : Zt) (C : Ctx) : TSet := fun o i v H Q => ∃ R T T' mo mi mv, Sto Z R C.B T H ∧ Rp Z R mo o ∧ Rp Z R mi i ∧ Rp Z R mv v ∧ putIx C T mo mi mv = some T' ∧ ∀ H', Ext C.B.length R R H H' → Sto Z R C.B T' H' → Q H'
theorem set_M (hx : XOk X Z C) : PSet X (rSetM Z C) := by
  intro pins s σ H o i v ov iv u Q I ro ri rv ⟨R, T, T', mo, mi, mv, st, po, pi, pv, h, q⟩
  unfold putIx at h
  split at h
  · rename_i l k
    split at h
    · rename_i xs h1
      split at h
      · rename_i j
        split at h
        · rename_i n hn
          obtain ⟨rfl, hk, rfl⟩ := setC_ok h
          simp only [Rp] at po pi
          obtain ⟨rfl, _⟩ := po
          subst pi
          obtain ⟨_, vs, g1, g2⟩ := st.cellAt h1
          obtain ⟨e1, s1⟩ := st.setc (j := k) (o := .lst (vs.set n v)) (c := .lst (xs.set n mv)) hk (fun a b z => by rw [top_cell rfl h1] at z; cases z) ⟨_, upd_same, Rps.set n g2 pv⟩
          exact set_list pins s σ H _ _ v ov iv u Q I ro ri rv ⟨_, vs, j, n, rfl, rfl, g1, by rw [g2.len]; exact ixOf_ok hn, q _ e1 s1⟩
        · cases h
      · cases h
    · rename_i ks vs h1
      split at h
      · rename_i hkz
        obtain ⟨rfl, hk, rfl⟩ := setC_ok h
        simp only [Rp] at po
        obtain ⟨rfl, _⟩ := po
        cases ro
        obtain ⟨_, o, kv, vv, g1, r1, r2, dd⟩ := st.cellAt h1
        refine dct_set (Room.units hx.room) I hx.prog hx.w hx.K st pi ri pv rv g1 r1 r2 dd hkz.1 hkz.2 fun o' kv' vv' s' I' dd' r1' r2' => ⟨_, I', ?_⟩
        obtain ⟨e1, s1⟩ := st.setc (j := k) (o := AtO (R.φ C.B.length k) o') (c := .dct (putKs mi ks) (putVs mi mv ks vs)) hk (fun a b z => by rw [top_cell rfl h1] at z; cases z) ⟨o', kv', vv', upd_same, r1', r2', dd'⟩
        exact q _ e1 s1
      · cases h
    · cases h
  · cases h
theorem g_sub (hx : XOk X Z C) (ha : PE X a (tE Z C XE ma)) (hb : PE X b (tE Z C XE mb))
    (hs : ∀ v, assign (.Subscript a b pos) X.env v = (do
      let ov ← holding [v] (eval a X.env)
      let iv ← holding [v, ov] (eval b X.env)
      standAt pos
      holding [v, ov, iv] (setItem ov iv v)
      release [v, ov, iv] []) := by intro _; rfl) : PG X (.Subscript a b pos) (tG Z C XE (.sub ma mb)) :=
  PGimp (pg_sub ha hb (set_M hx) hs) fun v σ H Q ⟨R, δ, T, x, fr, st, p, q⟩ => by
    simp only [asg] at q
    refine two fr st q fun y z T2 R2 H2 vy vz e2 f2 s2 py pz k2 => ?_
    obtain ⟨T3, h1, k3⟩ := k2.optB
    exact ⟨R2, T2, T3, y, z, x, s2, py, pz, Rp.mono e2.le _ _ p, h1, fun H' e' s' => k3 _ _ e' s' σ f2 ⟨rfl, fun _ _ => rfl⟩⟩

/-! ### del d[k] -/
theorem withoutH_cons (k0 k : NestedKey) (b : Addr) (u : Value) (xs : List (NestedKey × Addr × Value)) (nd : (((k0, b, u) :: xs).map (·.1)).Nodup) : withoutH ((k0, b, u) :: xs) k = if k0 = k then xs else (k0, b, u) :: withoutH xs k := by
  by_cases e : k0 = k
  · subst e
    rw [if_pos rfl]
    have hn : k0 ∉ xs.map (·.1) := (List.nodup_cons.mp (by simpa using nd)).1
    have := withoutH_of_not_mem xs k0 hn
    unfold withoutH at this ⊢
    rw [List.filter_cons, if_neg (by simp)]
    exact this
  · rw [if_neg e]
    unfold withoutH
    rw [List.filter_cons, if_pos (by simpa using e)]
theorem delT {x : MV} {k : NestedKey} (hk : keyOf x = some k) : ∀ (xs : List (NestedKey × Addr × Value)) (ks vs : List MV) (vv : List V), (xs.map (·.1)).Nodup → keysOf ks = some (xs.map (·.1)) → Vals vv (xs.map (·.2.2)) → Rps Z R ks (xs.map fun y => V.ref y.2.1) → Rps Z R vs vv →
    ∃ vv', keysOf (delKs x ks) = some ((withoutH xs k).map (·.1)) ∧ Vals vv' ((withoutH xs k).map (·.2.2)) ∧ Rps Z R (delKs x ks) ((withoutH xs k).map fun y => V.ref y.2.1) ∧ Rps Z R (delVs x ks vs) vv'
  | [], ks, vs, vv, nd, h1, h2, h3, h4 => by
    cases ks with
    | cons q r => obtain ⟨_, _, e, _⟩ := keysOf_cons h1; cases e
    | nil =>
      cases h2
      cases vs with
      | cons q r => simp only [Rps] at h4; obtain ⟨_, _, e, _⟩ := h4; cases e
      | nil => exact ⟨[], rfl, .nil, Rps.nil, Rps.nil⟩
  | (k0, b, u) :: xs, ks, vs, vv, nd, h1, h2, h3, h4 => by
    cases ks with
    | nil => cases h1
    | cons y ks =>
      obtain ⟨k1, r, e, g1, g2⟩ := keysOf_cons h1
      simp only [List.map_cons, List.cons.injEq] at e
      obtain ⟨rfl, rfl⟩ := e
      cases vv with
      | nil => cases h2
      | cons w vv =>
        cases h2 with
        | cons rw_ rr =>
        simp only [List.map_cons, Rps] at h3
        obtain ⟨v0, r0, e0, p0, p1⟩ := h3
        cases e0
        cases vs with
        | nil => simp only [Rps] at h4; cases h4
        | cons z vs =>
          simp only [Rps] at h4
          obtain ⟨w0, r1, e1, p2, p3⟩ := h4
          cases e1
          have nd' : (xs.map (·.1)).Nodup := (List.nodup_cons.mp (by rw [List.map_cons] at nd; exact nd)).2
          rw [withoutH_cons _ _ _ _ _ nd]
          simp only [delKs, delVs]
          rw [eqv_keyD g1 hk]
          by_cases e : k0 = k
          · rw [if_pos e]
            simp only [decide_eq_true e, if_true]
            exact ⟨vv, g2, rr, p1, p3⟩
          · rw [if_neg e]
            simp only [decide_eq_false e, Bool.false_eq_true, if_false]
            obtain ⟨vv', a1, a2, a3, a4⟩ := delT hk xs ks vs vv nd' g2 rr p1 p3
            refine ⟨w :: vv', ?_, .cons rw_ a2, Rps.cons p0 a3, Rps.cons p2 a4⟩
            simp only [keysOf, g1, a1, List.map_cons]
theorem delKs_len (x : MV) : ∀ ks : List MV, (delKs x ks).length ≤ ks.length
  | [] => Nat.le_refl _
  | k :: ks => by
    unfold delKs
    split
    · simp
    · simp only [List.length_cons]; exact Nat.succ_le_succ (delKs_len x ks)
theorem dct_del {A : Around} {E : Value → Shared → Prop} {a : Addr} {o : Obj} {x y : MV} {vx : V} {u : Value} {ks vs : List MV} {kv vv : List V} {Q : Unit → Shared → Prop} (hu : A.units + 64 < cLine) (I : Inv X pins σ H s) (hp : X.prog = Z.prog) (hw : X.w = Z.w) (hK : X.K = Z.K) (st : Sto Z R C.B T H)
    (px : Rp Z R x vx) (ru : RelV vx u) (ho : H a = some (AtO a o)) (r1 : Rps Z R ks kv) (r2 : Rps Z R vs vv) (dd : DctO Z a o ks vs kv vv) (hk : keysOk x ks = true) (ht : isTup x = true) (hl : lookK x ks vs = some y)
    (h : ∀ o' kv' vv' s', Inv X pins σ (upd H a (AtO a o')) s' → DctO Z a o' (delKs x ks) (delVs x ks vs) kv' vv' → Rps Z R (delKs x ks) kv' → Rps Z R (delVs x ks vs) vv' → Q () s') :
    wpAny (model X.prog X.w) A (delItem (.ref a) u) Q E s := by
  obtain ⟨k, hkey, hdep⟩ := keysOk_key hk
  have hpl := delKs_len x ks
  have hsz : (1000000 : Nat) ≤ sizeLine := by rw [sizeLine_eq]; decide
  have hz := dd.sz
  rw [hp, hw]
  rcases dct_split hk r1 dd with ⟨_, t⟩ | ⟨ht', t⟩
  · obtain ⟨xs, dk, h4, h5, h6, h7⟩ := t.at I hK st ho dd.ex r1
    have is_ := nk_is I hK st x vx u k hkey px ru
    obtain ⟨b, rfl, rfl⟩ := tup_ref ht px ru
    subst h5
    have q := lookT (Z := Z) (R := R) hkey xs ks vs vv h4 h6 r2
    rw [hl] at q
    obtain ⟨p, vw, e1, _, _⟩ := q
    obtain ⟨vv', a1, a2, a3, a4⟩ := delT hkey xs ks vs vv dk.nodup h4 h6 r1 r2
    have hlen : xs.length = ks.length := by rw [← keysOf_len h4, List.length_map]
    refine wpAny_delItem_heap (hsz := by omega) (room8 hu _ _) ⟨is_, hdep⟩ dd.ns dk e1 fun h' dk' hs => ?_
    obtain ⟨o', es', ep', g1, g2, g3, g4, g5, g6⟩ := dk'
    refine h o' _ vv' _ (AtO.write I ho hs g1) ⟨g2, dd.ns, .inl ⟨es', ep', _, g3, g4, g6, a1, rfl, a2, fun z hz => (g5 z hz).2⟩, by omega⟩ a3 a4
  · rw [ht] at ht'; cases ht'
def tDelM (Z : Zt) (C : Ctx) (to ti : TE) : TS := fun D σ H => to σ H fun x H1 => ti σ H1 fun y H2 => ∃ R T T' mo mi, Sto Z R C.B T H2 ∧ Rp Z R mo x ∧ Rp Z R mi y ∧ delIx C T mo mi = some T' ∧ ∀ H', Ext C.B.length R R H2 H' → Sto Z R C.B T' H' → D.nx σ H'
theorem ps_delM (hx : XOk X Z C) {o i : PySem.Expr} {to ti : TE} {tpos : Pos} (ho : PE X o to) (hi : PE X i ti) : PS X (.Delete [.Subscript o i tpos] pos) (tDelM Z C to ti) := by
  refine ⟨fun pins s σ H D I h => ?_⟩
  refine wpAny_Delete (wpAny_deleteEach_cons (wpAny_delete_Subscript (thn (ho.run pins s σ H _ I h) fun u s1 ⟨x, H1, I1, rx, q1⟩ => thn (hi.run pins s1 σ H1 _ I1 q1) fun iv s2 ⟨y, H2, I2, ry, q2⟩ => ?_)))
  obtain ⟨R, T, T', mo, mi, st, po, pi, h, q⟩ := q2
  unfold delIx at h
  split at h
  · rename_i l k
    split at h
    · rename_i ks vs h1
      split at h
      · rename_i hkz
        obtain ⟨rfl, hk, rfl⟩ := setC_ok h
        simp only [Rp] at po
        obtain ⟨rfl, _⟩ := po
        cases rx
        obtain ⟨_, o, kv, vv, g1, r1, r2, dd⟩ := st.cellAt h1
        obtain ⟨y', hy⟩ := Option.isSome_iff_exists.mp hkz.2.2
        refine dct_del (Room.units hx.room) I2 hx.prog hx.w hx.K st pi ry g1 r1 r2 dd hkz.1 hkz.2.1 hy fun o' kv' vv' s' I' dd' r1' r2' => wpAny_deleteEach_nil ⟨σ, _, I', ?_⟩
        obtain ⟨e1, s1⟩ := st.setc (j := k) (o := AtO (R.φ C.B.length k) o') (c := .dct (delKs mi ks) (delVs mi ks vs)) hk (fun a b z => by rw [top_cell rfl h1] at z; cases z) ⟨o', kv', vv', upd_same, r1', r2', dd'⟩
        exact q _ e1 s1
      · cases h
    · cases h
  · cases h
end
end Mini
end
section
set_option linter.all false
set_option maxRecDepth 100000
set_option maxHeartbeats 2000000
namespace Mini
open PySem PySem.Spec PyProof.Rows L2

/-! ### what loops walk -/
/-- later: what is known stays known, the cells of other layers stay -/
structure Lat (L : Nat) (R R1 : Rn) (H H1 : Hp) : Prop where
  le : Le R R1
  outer : ∀ l k o, l ≠ L → k < R.n l → H (R.φ l k) = some o → H1 (R.φ l k) = some o
theorem Lat.refl {L : Nat} (R : Rn) (H : Hp) : Lat L R R H H := ⟨Le.refl R, fun _ _ _ _ _ h => h⟩
theorem Lat.ext {Z : Zt} {B : List Layer} {T : Layer} {L : Nat} {R R1 R2 : Rn} {H H1 H2 : Hp} (a : Lat L R R1 H H1) (e : Ext L R1 R2 H1 H2) (s : Sto Z R1 B T H1) : Lat L R R2 H H2 :=
  ⟨a.le.trans e.le, fun l k o hl hk h => by
    have h1 := a.outer l k o hl hk h
    have hk1 := Nat.lt_of_lt_of_le hk (a.le.n l)
    exact e.keep _ o h1 fun k' hk' z => hl (s.inj _ _ _ _ hk' hk1 (z.trans (a.le.φ l k hk).symm)).1.symm⟩
theorem Lat.put {L : Nat} {R R1 : Rn} {H H1 : Hp} {D : Addr} {o : HO} (a : Lat L R R1 H H1) (hD : ∀ l k, k < R1.n l → R1.φ l k ≠ D) : Lat L R R1 H (upd H1 D o) :=
  ⟨a.le, fun l k u hl hk h => by
    rw [upd_ne (by rw [← a.le.φ l k hk]; exact hD l k (Nat.lt_of_lt_of_le hk (a.le.n l)))]
    exact a.outer l k u hl hk h⟩
/-- J hands out the items, whenever it is asked and what is walked stands still -/
def Dlv (Z : Zt) (C : Ctx) (R : Rn) (H : Hp) (src : List (Nat × Nat × Cell)) (items : List MV) (J : L2.It) : Prop :=
  ∀ (i : Nat) (R1 : Rn) (H1 : Hp) (T1 : Layer), Lat C.B.length R R1 H H1 → Sto Z R1 C.B T1 H1 → still C T1 src = true →
    (items.length ≤ i → J.stop i H1) ∧ ∀ x, items[i]? = some x → J.go i H1 ∧ ∀ v H2, J.yld i H1 v H2 → ∃ R2, Ext C.B.length R1 R2 H1 H2 ∧ Sto Z R2 C.B T1 H2 ∧ Rp Z R2 x v
def LockSt (C : Ctx) (lk : Option Nat) (T : Layer) (R : Rn) (H : Hp) (R1 : Rn) : Prop := match lk with
  | none => R1 = R
  | some k => ∃ o, H (R.φ C.B.length k) = some (AtO (R.φ C.B.length k) o) ∧ R1 = R.hold (R.φ C.B.length k) o
def LockOk (lk : Option Nat) (T : Layer) : Prop := match lk with
  | none => True
  | some k => ∃ ks vs, T[k]? = some (.dct ks vs)
def tIt (Z : Zt) (C : Ctx) (XE : XT) (it : It) : TI := fun σ H Rr => ∃ R δ T, Frm Z R δ σ ∧ Sto Z R C.B T H ∧ Out Z C.B XE σ (evIt C it δ T) R H fun d T' R' H' =>
  ∀ J, LockOk d.lock T' → (∀ R1, LockSt C d.lock T' R' H' R1 → Dlv Z C R1 H' d.src d.items J) → Rr J H'

/-! the same content -/
mutual
theorem beq_ok : ∀ (x y : MV), x.beq y = true → x = y
  | .undef, y, h => by cases y <;> simp [MV.beq] at h <;> rfl
  | .non, y, h => by cases y <;> simp [MV.beq] at h <;> rfl
  | .bl a, y, h => by cases y <;> simp [MV.beq] at h; rw [h]
  | .int a, y, h => by cases y <;> simp [MV.beq] at h; rw [h]
  | .str a, y, h => by cases y <;> simp [MV.beq] at h; rw [h]
  | .tup xs, y, h => by cases y <;> simp [MV.beq] at h; rw [beqs_ok _ _ h]
  | .lst xs, y, h => by cases y <;> simp [MV.beq] at h; rw [beqs_ok _ _ h]
  | .dct ks vs, y, h => by cases y <;> simp [MV.beq] at h; rw [beqs_ok _ _ h.1, beqs_ok _ _ h.2]
  | .ins c fs, y, h => by cases y <;> simp [MV.beq] at h; rw [h.1, beqs_ok _ _ h.2]
  | .ref l k, y, h => by cases y <;> simp [MV.beq] at h; rw [h.1, h.2]
theorem beqs_ok : ∀ (xs ys : List MV), beqs xs ys = true → xs = ys
  | [], ys, h => by cases ys <;> simp [beqs] at h <;> rfl
  | x :: xs, ys, h => by
    cases ys with
    | nil => simp [beqs] at h
    | cons y ys => simp [beqs] at h; rw [beq_ok _ _ h.1, beqs_ok _ _ h.2]
end
theorem cell_beq {c c' : Cell} (h : c'.beq c = true) : c' = c := by
  cases c' <;> cases c <;> simp [Cell.beq] at h <;> first
    | rw [beqs_ok _ _ h]
    | rw [beqs_ok _ _ h.1, beqs_ok _ _ h.2]
    | rw [h.1, beqs_ok _ _ h.2]
theorem still_at {C : Ctx} {T : Layer} : ∀ {src : List (Nat × Nat × Cell)}, still C T src = true → ∀ l k c, (l, k, c) ∈ src → C.get T l k = some c
  | [], _, _, _, _, h => by cases h
  | (l0, k0, c0) :: r, h, l, k, c, hm => by
    unfold still at h
    rw [Bool.and_eq_true] at h
    rcases List.mem_cons.mp hm with e | hm
    · cases e
      have h1 := h.1
      split at h1
      · rename_i c' hc
        rw [hc, cell_beq h1]
      · cases h1
    · exact still_at h.2 l k c hm

section
variable {X : Cx} {Z : Zt} {C : Ctx} {XE : XT} {σ : L2.St} {H : Hp} {R : Rn} {T : Layer} {e a b c : PySem.Expr} {ma mb mc : E} {pos : Pos} {pins : List (Addr × Obj)} {s : Shared} {tg : PySem.Expr}
/-- a list that is walked: what it is at later times -/
theorem lst_later {R1 : Rn} {H1 : Hp} {T1 : Layer} {x : MV} {xs : List MV} {v : Addr} (st : Sto Z R C.B T H) (px : Rp Z R x (.ref v)) (h : lstOf C T x = some xs) (e : Lat C.B.length R R1 H H1) (s1 : Sto Z R1 C.B T1 H1) (hs : still C T1 (srcOf C T x) = true) :
    ∃ vs, Rd H1 v (.lst vs) ∧ Rps Z R1 xs vs := by
  cases x with
  | lst ys =>
    simp only [lstOf, Option.some.injEq] at h
    subst h
    have px := Rp.mono e.le _ _ px
    simp only [Rp] at px
    obtain ⟨a, vs, h1, h2, h3⟩ := px
    cases h1
    exact ⟨vs, s1.rd h2, h3⟩
  | ref l k =>
    have px1 := Rp.mono e.le _ _ px
    simp only [Rp] at px1
    simp only [lstOf] at h
    split at h
    · rename_i ys hc
      simp only [Option.some.injEq] at h
      subst h
      have hsrc : srcOf C T (.ref l k) = [(l, k, .lst ys)] := by unfold srcOf; simp only [hc]
      rw [hsrc] at hs
      have h2 := still_at hs l k _ (List.mem_singleton.mpr rfl)
      obtain ⟨_, vs, h3, h4⟩ := s1.cellAt h2
      have e1 := px1.1
      cases e1
      exact ⟨vs, .inl h3, h4⟩
    · cases h
  | _ => simp only [lstOf] at h; cases h
theorem seq_later {R1 : Rn} {H1 : Hp} {T1 : Layer} {x : MV} {xs : List MV} {v : Addr} (st : Sto Z R C.B T H) (px : Rp Z R x (.ref v)) (h : seqOf C T x = some xs) (e : Lat C.B.length R R1 H H1) (s1 : Sto Z R1 C.B T1 H1) (hs : still C T1 (srcOf C T x) = true) :
    (lstOf C T x = some xs ∧ ∃ vs, Rd H1 v (.lst vs) ∧ Rps Z R1 xs vs) ∨ (x = .tup xs ∧ ∃ vs, SqT Z.K H1 v vs ∧ Rps Z R1 xs vs) := by
  cases x with
  | tup ys =>
    simp only [seqOf, Option.some.injEq] at h
    subst h
    have px := Rp.mono e.le _ _ px
    simp only [Rp] at px
    obtain ⟨a, vs, h1, h2, h3⟩ := px
    cases h1
    exact .inr ⟨rfl, vs, s1.sqT h2, h3⟩
  | lst ys => exact .inl ⟨by simpa only [seqOf, lstOf] using h, lst_later st px (by simpa only [seqOf, lstOf] using h) e s1 hs⟩
  | ref l k => exact .inl ⟨by simpa only [seqOf, lstOf] using h, lst_later st px (by simpa only [seqOf, lstOf] using h) e s1 hs⟩
  | _ => simp only [seqOf] at h; cases h

/-- the keys of the dict at a, which is the object o -/
def Ita (a : Addr) (o : Obj) (n : Nat) : L2.It :=
  ⟨fun i H => H a = some (AtO a o) ∧ i < n, fun i H x H' => H' = H ∧ ∃ es ep en, o.data = .dict es ep ∧ es[i]? = some en ∧ RelV x en.key, fun i H => H a = some (AtO a o) ∧ n ≤ i⟩
theorem absV_key {K : PySem.W.Frag} {x : V} {u : Value} (r : RelV x u) : RelV x u := r
theorem turn_keysA {P : Program} {w : World} {K : PySem.W.Frag} {tg : PySem.Expr} {a : Addr} {o : Obj} {es : Array DictEntry} {ep : Nat} (it : Addr) (hod : o.data = .dict es ep) (hv : ∀ (j : Nat) (en : DictEntry), es[j]? = some en → ∃ v, RelV v en.key) : Turn P w K tg (Ita a o es.size) [it] it (fun i h => h.IsKeyIter it a i es.size ep) where
  mem := by simp
  obj := fun i h st b hb => by
    have e : b = it := by simpa using hb
    subst e
    obtain ⟨oi, e, c, dd⟩ := st
    exact ⟨oi, e, fun v z => by rw [dd] at z; cases z⟩
  keep := fun i h h' st k => st.at fun oi e => k it (by simp) oi e
  item := by
    intro X hP hw hK hc i pins s σ H E I hf st hg
    subst hP hw hK
    obtain ⟨hd, hi⟩ := hg
    obtain ⟨f0, f1, f2, f3, f4, f5⟩ := hf it (by simp)
    have hgd : s.heap.get? a = some o := (I.hok a _ hd).1
    have hen : es[i]? = some es[i] := Array.getElem?_eq_getElem hi
    obtain ⟨v, hv1⟩ := hv i _ hen
    refine next_key_item st hgd hod rfl hen fun h' st' sb => ?_
    have I1 : Inv X pins σ H { s with heap := h' } := I.turned (t' := s.toks) (fun b ob hb e => (sb.2 b hb).trans e) f0 f1 f3 f4 f5
    obtain ⟨oi, e, c, dd⟩ := id st'
    exact ⟨_, rfl, go_of (s := { s with heap := h' }) e c dd (by decide) ⟨v, H, I1, hv1, ⟨rfl, es, ep, _, hod, hen, hv1⟩, st', fun b hb => (hf b hb).1⟩⟩
  done := by
    intro X hP hw hK hc i pins s σ H E I hf st hg
    subst hP hw hK
    obtain ⟨hd, hi⟩ := hg
    obtain ⟨f0, f1, f2, f3, f4, f5⟩ := hf it (by simp)
    have hgd : s.heap.get? a = some o := (I.hok a _ hd).1
    exact next_key_end (I.ok.hd hc) st hgd hod rfl hi fun h' eb => ⟨rfl, I.turned (t' := s.toks) (fun b ob hb e => eb b ob hb e) f0 f1 f3 f4 f5⟩
  self := fun A i s Q E st h => by
    refine wpAny_pyIter_slot st.typeIs F.slot_dict_keyiterator_iter (wpAny_call_entry F.slot_dict_keyiterator_iter st.typeIs F.entry_dict_keyiterator_iter ?_ (F.args_dict_keyiterator_iter_1 _))
    show wpAny _ _ (ret (.ref it)) _ _ s
    exact wpAny_pure ⟨_, rfl, "dict_keyiterator", _, st.typeIs, F.slot_dict_keyiterator_next.lookup, h⟩
theorem dct_later {x : MV} {v : V} {ks vs : List MV} (st : Sto Z R C.B T H) (px : Rp Z R x v) (h : dctOf C T x = some (ks, vs)) :
    ∃ a o kv vv, v = .ref a ∧ H a = some (AtO a o) ∧ Rps Z R ks kv ∧ Rps Z R vs vv ∧ DctO Z a o ks vs kv vv ∧ LockOk (lockOf C T x) T ∧
      ∀ R', LockSt C (lockOf C T x) T R H R' → ∀ R2 H2 T2, Lat C.B.length R' R2 H H2 → Sto Z R2 C.B T2 H2 → H2 a = some (AtO a o) ∧ Le0 R R2 := by
  cases x with
  | dct ks' vs' =>
    simp only [dctOf, Option.some.injEq, Prod.mk.injEq] at h
    obtain ⟨rfl, rfl⟩ := h
    simp only [Rp] at px
    obtain ⟨a, o, kv, vv, h1, h2, h3, h4, h5⟩ := px
    refine ⟨a, o, kv, vv, h1, st.sub _ _ h2, h3, h4, h5, trivial, fun R' hl R2 H2 T2 e s2 => ?_⟩
    cases hl
    exact ⟨s2.sub _ _ (e.le.F _ _ h2), e.le.to0⟩
  | ref l k =>
    simp only [Rp] at px
    obtain ⟨rfl, hk⟩ := px
    simp only [dctOf] at h
    by_cases hl : l = C.B.length
    · subst hl
      split at h
      · rename_i ks' vs' hc
        simp only [Option.some.injEq, Prod.mk.injEq] at h
        obtain ⟨rfl, rfl⟩ := h
        have ht := top_cell rfl hc
        obtain ⟨_, o, kv, vv, h1, h2, h3, h4⟩ := st.cellAt hc
        have hlk : lockOf C T (.ref C.B.length k) = some k := by unfold lockOf; simp only [if_pos, ht]
        rw [hlk]
        refine ⟨_, o, kv, vv, rfl, h1, h2, h3, h4, ⟨_, _, ht⟩, fun R' hl R2 H2 T2 e s2 => ?_⟩
        obtain ⟨o', e1, rfl⟩ := hl
        rw [h1] at e1
        exact ⟨e1 ▸ s2.held (e.le.lk _ _ hold_at), ⟨e.le.F, e.le.n, e.le.φ⟩⟩
      · rename_i ks' vs' hc
        simp only [Option.some.injEq, Prod.mk.injEq] at h
        obtain ⟨rfl, rfl⟩ := h
        have ht := top_cell rfl hc
        obtain ⟨_, o, kv, vv, h0, h1, h2, h3, h4⟩ := st.cellAt hc
        have hlk : lockOf C T (.ref C.B.length k) = none := by unfold lockOf; simp only [if_pos, ht]
        rw [hlk]
        refine ⟨_, o, kv, vv, rfl, h1, h2, h3, h4, trivial, fun R' hl R2 H2 T2 e s2 => ?_⟩
        cases hl
        exact ⟨s2.held (e.le.lk _ _ h0), e.le.to0⟩
      · cases h
    · have hlk : lockOf C T (.ref l k) = none := by unfold lockOf; simp only [if_neg hl]
      have hl' := hl
      rw [hlk]
      split at h
      · rename_i ks' vs' hc
        simp only [Option.some.injEq, Prod.mk.injEq] at h
        obtain ⟨rfl, rfl⟩ := h
        obtain ⟨_, o, kv, vv, h1, h2, h3, h4⟩ := st.cellAt hc
        refine ⟨_, o, kv, vv, rfl, h1, h2, h3, h4, trivial, fun R' hl R2 H2 T2 e s2 => ?_⟩
        cases hl
        exact ⟨e.outer _ _ _ hl' hk h1, e.le.to0⟩
      · rename_i ks' vs' hc
        simp only [Option.some.injEq, Prod.mk.injEq] at h
        obtain ⟨rfl, rfl⟩ := h
        obtain ⟨_, o, kv, vv, _, h1, h2, h3, h4⟩ := st.cellAt hc
        refine ⟨_, o, kv, vv, rfl, h1, h2, h3, h4, trivial, fun R' hl R2 H2 T2 e s2 => ?_⟩
        cases hl
        exact ⟨e.outer _ _ _ hl' hk h1, e.le.to0⟩
      · cases h
  | _ => simp only [dctOf] at h; cases h
theorem dlv_list {x : MV} {xs : List MV} {a : Addr} (hK : X.K = Z.K) (st : Sto Z R C.B T H) (px : Rp Z R x (.ref a)) (h : lstOf C T x = some xs) : Dlv Z C R H (srcOf C T x) xs (Itl X.K a) := by
  intro i R2 H2 T2 e s2 hs
  obtain ⟨vs, h1, h2⟩ := lst_later st px h e s2 hs
  refine ⟨fun hi => ⟨vs, .inl h1, by rw [h2.len]; exact hi⟩, fun y hy => ?_⟩
  obtain ⟨v, h3, h4⟩ := h2.get hy
  refine ⟨⟨vs, v, .inl h1, h3⟩, fun w H3 ⟨h5, h6⟩ => ?_⟩
  subst h5
  have := h6 vs (.inl h1)
  rw [h3] at this; cases this
  exact ⟨R2, Ext.refl s2, s2, h4⟩
theorem dlv_tup {xs : List MV} {a : Addr} (hK : X.K = Z.K) (st : Sto Z R C.B T H) (px : Rp Z R (.tup xs) (.ref a)) : Dlv Z C R H [] xs (Itt X.K a) := by
  intro i R2 H2 T2 e s2 hs
  have px := Rp.mono e.le _ _ px
  simp only [Rp] at px
  obtain ⟨_, vs, e1, h1, h2⟩ := px
  cases e1
  have h1 := s2.sqT h1
  rw [hK]
  refine ⟨fun hi => ⟨vs, h1, by rw [h2.len]; exact hi⟩, fun y hy => ?_⟩
  obtain ⟨v, h3, h4⟩ := h2.get hy
  refine ⟨⟨vs, v, h1, h3⟩, fun w H3 ⟨h5, h6⟩ => ?_⟩
  subst h5
  have := h6 vs h1
  rw [h3] at this; cases this
  exact ⟨R2, Ext.refl s2, s2, h4⟩
/-- for .. in e: a list, a tuple, a dict -/
theorem i_seq (hx : XOk X Z C) (h : PE X e (tE Z C XE ma)) : PI X tg e (tIt Z C XE (.seq ma)) := by
  refine ⟨fun pins s σ H Rr I ⟨R, δ, T, fr, st, q⟩ => ?_⟩
  simp only [evIt] at q
  refine thn (h.run pins s σ H (fun x H1 => ∃ R1 T1 mx, Ext C.B.length R R1 H H1 ∧ Sto Z R1 C.B T1 H1 ∧ Rp Z R1 mx x ∧ _) I ⟨R, δ, T, fr, st, q.bind.sto.imp fun x T1 R1 H1 _ ⟨e1, s1, k⟩ vx p => ⟨R1, T1, x, e1, s1, p, k⟩⟩) fun v s1 ⟨x, H1, I1, r1, R1, T1, mx, e1, st1, p1, k⟩ => ?_
  split at k
  · rename_i xs hs
    have k := k.ok st1
    obtain ⟨a, vs, rfl, h1, h2⟩ := seqOf_ok st1 p1 hs
    cases r1
    have hcase : lstOf C T1 mx = some xs ∨ mx = .tup xs := by
      cases mx <;> simp only [seqOf] at hs <;> first
        | (cases hs; exact .inr rfl)
        | (exact .inl hs)
        | (cases hs)
    rcases hcase with hl | rfl
    · obtain ⟨a', vs', e2, h1', h2'⟩ := lstOf_ok st1 p1 hl
      cases e2
      have hq : SqL X.K H1 a vs' := .inl h1'
      obtain ⟨its, rv, p, hz⟩ := I1.list hq
      refine wpAny_pyIter_list p.isList ?_
      refine ⟨s1.heap.objs.size, [s1.heap.objs.size], _, _, H1, rfl, I1.kept (t' := s1.toks) fun b o e => Heap.get?_push_of_some _ e, turn_list a _, ⟨_, Heap.get?_push_size _ rfl, rfl, rfl⟩, fun b hb => ?_, k _ trivial fun R' hR => by cases hR; exact dlv_list hx.K st1 p1 hl⟩
      have e : b = s1.heap.objs.size := by simpa using hb
      subst e
      exact I1.fpOk (Nat.le_refl _) (I1.hok.fresh (Nat.le_refl _))
    · have p1' := p1
      simp only [Rp] at p1'
      obtain ⟨a', vs', e2, h1', h2'⟩ := p1'
      cases e2
      have hq : SqT X.K H1 a vs' := hx.K ▸ st1.sqT h1'
      obtain ⟨its, rv, p, hz⟩ := I1.tuple hq
      refine wpAny_pyIter_tuple (show s1.heap.IsTuple a its.toArray from p) ?_
      refine ⟨s1.heap.objs.size, [s1.heap.objs.size], _, _, H1, rfl, I1.kept (t' := s1.toks) fun b o e => Heap.get?_push_of_some _ e, turn_tuple a _, ⟨_, Heap.get?_push_size _ rfl, rfl, rfl⟩, fun b hb => ?_, k _ trivial fun R' hR => by cases hR; exact dlv_tup hx.K st1 p1⟩
      have e : b = s1.heap.objs.size := by simpa using hb
      subst e
      exact I1.fpOk (Nat.le_refl _) (I1.hok.fresh (Nat.le_refl _))
  · split at k
    · rename_i ks vs hd
      obtain ⟨hk, k⟩ := k.sized
      have k := k.ok st1
      obtain ⟨a, o, kv, vv, rfl, ho, r1', r2, dd, hlo, later⟩ := dct_later st1 p1 hd
      cases r1
      obtain ⟨es, ep, kv', hdt, hes, _, r3, hat⟩ := dct_keys r1' r2 dd hk
      have hg : s1.heap.get? a = some o := (I1.hok a _ ho).1
      refine iter_keys dd.ns hg dd.ex hdt (pi_one (tk := s1.toks) I1 _ (turn_keysA _ hdt fun j en hj => let ⟨⟨v, _, h⟩, _⟩ := hat j en hj; ⟨v, h⟩) ⟨_, Heap.get?_push_size _ rfl, rfl, rfl⟩ (k _ hlo fun R' hR i R2 H2 T2 e s2 _ => ?_))
      obtain ⟨hH2, hle⟩ := later R' hR R2 H2 T2 e s2
      refine ⟨fun hi => ⟨hH2, by have hi : ks.length ≤ i := hi; omega⟩, fun y hy => ?_⟩
      have hi : i < ks.length := (List.getElem?_eq_some_iff.mp hy).1
      obtain ⟨w, h4, h5⟩ := r3.get hy
      refine ⟨⟨hH2, by omega⟩, fun z H3 ⟨h6, es', ep', en, h7, h8, h9⟩ => ?_⟩
      subst h6
      rw [hdt] at h7; cases h7
      obtain ⟨⟨w', h10, h11⟩, _⟩ := hat i en h8
      rw [h4] at h10; cases h10
      cases h9.inj h11
      exact ⟨R2, Ext.refl s2, s2, Rp.mono0 hle _ _ h5⟩
    · exact k.elim
end
end Mini
end
section
set_option linter.all false
set_option maxRecDepth 100000
set_option maxHeartbeats 2000000
namespace Mini
open PySem PySem.Spec PyProof.Rows L2

def tS (Z : Zt) (C : Ctx) (XE : XT) (ms : S) : TS := fun D σ H => ∃ R δ T, Frm Z R δ σ ∧ Sto Z R C.B T H ∧ Out Z C.B (anyX XE) σ (exec C ms δ T) R H (kS Z D)
def tSs (Z : Zt) (C : Ctx) (XE : XT) (ms : Ss) : TS := fun D σ H => ∃ R δ T, Frm Z R δ σ ∧ Sto Z R C.B T H ∧ Out Z C.B (anyX XE) σ (execs C ms δ T) R H (kS Z D)
section
variable {X : Cx} {Z : Zt} {C : Ctx} {XE : XT} {σ : L2.St} {H : Hp} {R : Rn} {T : Layer} {e a b c : PySem.Expr} {ma mb mc : E} {pos p : Pos} {pins : List (Addr × Obj)} {s : Shared} {tg : PySem.Expr}
/-! ### ranges, enumerate -/
theorem dlv_range {lo : Int} {n : Nat} : Dlv Z C R H [] (rangeL lo n) (Itr lo n) := by
  intro i R2 H2 T2 e s2 hs
  unfold rangeL
  refine ⟨fun hi => ?_, fun y hy => ?_⟩
  · rw [List.length_map, List.length_range] at hi; exact hi
  · rw [List.getElem?_map] at hy
    have hi : i < n := by
      cases q : (List.range n)[i]? with
      | none => rw [q] at hy; cases hy
      | some j => have := (List.getElem?_eq_some_iff.mp q).1; rwa [List.length_range] at this
    rw [List.getElem?_range hi] at hy
    cases hy
    exact ⟨hi, fun w H3 ⟨h5, h6⟩ => by subst h5; subst h6; exact ⟨R2, Ext.refl s2, s2, rp_int⟩⟩
theorem i_range1 (hg : Gl X "range") (hm : X.mg "range" = none) (ha : PE X a (tE Z C XE ma)) (hs : starEach [a] X.env = [(false, eval a X.env)] := by rfl) : PI X tg (.Call (.Name "range" p) [a] [] pos) (tIt Z C XE (.range1 ma)) := by
  refine ⟨fun pins s σ H Rr I ⟨R, δ, T, fr, st, q⟩ => (pi_range1 hg hm (pa_cons ha pa_nil hs) hs).run pins s σ H Rr I ?_⟩
  simp only [evIt] at q
  refine one fr st q fun x T1 R1 H1 vx e1 f1 s1 p1 k1 => ?_
  split at k1
  · rename_i i
    obtain ⟨hz, k1⟩ := k1.sized
    simp only [Rp] at p1
    subst p1
    exact ⟨i, rfl, by omega, by omega, k1.ok s1 _ trivial fun R' hR => by cases hR; exact dlv_range⟩
  · exact k1.elim
theorem i_range2 (hg : Gl X "range") (hm : X.mg "range" = none) (ha : PE X a (tE Z C XE ma)) (hb : PE X b (tE Z C XE mb)) (hs : starEach [a, b] X.env = [(false, eval a X.env), (false, eval b X.env)] := by rfl) (hs2 : starEach [b] X.env = [(false, eval b X.env)] := by rfl) : PI X tg (.Call (.Name "range" p) [a, b] [] pos) (tIt Z C XE (.range2 ma mb)) := by
  refine ⟨fun pins s σ H Rr I ⟨R, δ, T, fr, st, q⟩ => (pi_range2 hg hm (pa_cons ha (pa_cons hb pa_nil hs2) (hs.trans (by rw [hs2]))) hs hs2).run pins s σ H Rr I ?_⟩
  simp only [evIt] at q
  refine two fr st q fun x y T2 R2 H2 vx vy e2 f2 s2 px py k2 => ?_
  split at k2
  · rename_i i j
    obtain ⟨hz, k2⟩ := k2.sized
    simp only [Rp] at px py
    subst px; subst py
    exact ⟨i, j, rfl, ⟨by omega, by omega, by omega, by omega⟩, k2.ok s2 _ trivial fun R' hR => by cases hR; exact dlv_range⟩
  · exact k2.elim
theorem dlv_enum {x : MV} {xs : List MV} {a : Addr} (hK : X.K = Z.K) (st : Sto Z R C.B T H) (px : Rp Z R x (.ref a)) (h : lstOf C T x = some xs) : Dlv Z C R H (srcOf C T x) (enumL 0 xs) (Ite X.K a) := by
  intro i R2 H2 T2 e s2 hs
  obtain ⟨vs, h1, h2⟩ := lst_later st px h e s2 hs
  have hat : ∀ (l : List MV) (n i : Nat), (enumL n l)[i]? = (l[i]?).map fun y => .tup [.int ((n + i : Nat) : Int), y] := by
    intro l
    induction l with
    | nil => intro n i; simp [enumL]
    | cons y r ih =>
      intro n i
      cases i with
      | zero => simp [enumL]
      | succ i =>
        simp only [enumL, List.getElem?_cons_succ]
        rw [ih (n + 1) i]
        have : n + 1 + i = n + (i + 1) := by omega
        rw [this]
  have hlen : (enumL 0 xs).length = xs.length := by
    have : ∀ (l : List MV) (n : Nat), (enumL n l).length = l.length := by
      intro l
      induction l with
      | nil => intro n; rfl
      | cons y r ih => intro n; simp [enumL, ih]
    exact this xs 0
  refine ⟨fun hi => ⟨vs, .inl h1, by rw [h2.len]; omega⟩, fun y hy => ?_⟩
  rw [hat] at hy
  cases hx : xs[i]? with
  | none => rw [hx] at hy; cases hy
  | some z =>
    rw [hx] at hy
    simp only [Option.map_some, Option.some.injEq] at hy
    subst hy
    obtain ⟨v, h3, h4⟩ := h2.get hx
    refine ⟨⟨vs, v, .inl h1, h3⟩, fun w H3 ⟨A, x', e1, hA, e2, h6⟩ => ?_⟩
    subst e1; subst e2
    have := h6 vs (.inl h1)
    rw [h3] at this; cases this
    obtain ⟨e3, s3⟩ := s2.fzn (L := C.B.length) (.tup [.int (i : Nat), v]) hA
    refine ⟨_, e3, s3, rp_tup (SqT.of upd_same) ?_⟩
    rw [Nat.zero_add]
    exact Rps.cons rp_int (Rps.cons (Rp.mono e3.le _ _ h4) Rps.nil)
theorem i_enum {elts : List PySem.Expr} {kk : Nat} {tpos : Pos} (hx : XOk X Z C) (hg : Gl X "enumerate") (hm : X.mg "enumerate" = none) (ha : PE X e (tE Z C XE ma)) (hs : starEach [e] X.env = [(false, eval e X.env)] := by rfl) : PI X (.Tuple elts kk tpos) (.Call (.Name "enumerate" p) [e] [] pos) (tIt Z C XE (.enum ma)) := by
  refine ⟨fun pins s σ H Rr I ⟨R, δ, T, fr, st, q⟩ => (pi_enum hg hm (pa_cons ha pa_nil hs) hs).run pins s σ H Rr I ?_⟩
  simp only [evIt] at q
  refine one fr st q fun x T1 R1 H1 vx e1 f1 s1 p1 k1 => ?_
  split at k1
  · rename_i xs h
    obtain ⟨a, vs, rfl, h1, h2⟩ := lstOf_ok s1 p1 h
    exact ⟨a, vs, rfl, .inl h1, k1.ok s1 _ trivial fun R' hR => by cases hR; exact dlv_enum hx.K s1 p1 h⟩
  · exact k1.elim

/-! ### loops -/
theorem Out.kS {fl : Fl × List MV} {K : Fl × List MV → Layer → Rn → Hp → Prop} (h : Out Z C.B XE σ (.ok fl T) R H K) (s : Sto Z R C.B T H) : K fl T R H := h.ok s
def forW (Z : Zt) (C : Ctx) (XE : XT) (R0 : Rn) (H0 : Hp) (src : List (Nat × Nat × Cell)) (turn : MV → List MV → Layer → Res (Fl × List MV)) (items : List MV) (K : Fl × List MV → Layer → Rn → Hp → Prop) (i m : Nat) (σ : L2.St) (H : Hp) : Prop :=
  ∃ R δ T, Ext C.B.length R0 R H0 H ∧ Sto Z R C.B T H ∧ Frm Z R δ σ ∧ i ≤ items.length ∧ m = items.length - i ∧ Out Z C.B (anyX XE) σ (forF C src turn (items.drop i) δ T) R H K
theorem for_go {src : List (Nat × Nat × Cell)} {items : List MV} {J : L2.It} {t : Tg} {body : Ss} {K : Fl × List MV → Layer → Rn → Hp → Prop} {D : Ends} {δ : List MV}
    (dlv : Dlv Z C R H src items J) (st : Sto Z R C.B T H) (fr : Frm Z R δ σ) (hK : ∀ p T R H, K p T R H → kS Z D p T R H)
    (q : Out Z C.B (anyX XE) σ (forF C src (fun x δ T => (asg C t x δ T).bind fun δ1 T1 => execs C body δ1 T1) items δ T) R H K) :
    ∃ W : Nat → Nat → L2.St → Hp → Prop, (∃ m, W 0 m σ H) ∧ ∀ i m σ H, W i m σ H →
      (J.stop i H ∧ D.nx σ H) ∨ (J.go i H ∧ ∃ N : L2.St → Hp → Prop, (∀ σ' H', N σ' H' → ∃ m', m' < m ∧ W (i + 1) m' σ' H') ∧ ∀ x H', J.yld i H x H' → tG Z C (anyX XE) t x σ H' fun σ2 H2 => tSs Z C XE body { D with nx := N, ct := N, bk := D.nx } σ2 H2) := by
  refine ⟨forW Z C XE R H src (fun x δ T => (asg C t x δ T).bind fun δ1 T1 => execs C body δ1 T1) items K, ⟨_, R, δ, T, Ext.refl st, st, fr, Nat.zero_le _, rfl, by rw [List.drop_zero]; exact q⟩, ?_⟩
  rintro i m σ1 H1 ⟨R1, δ1, T1, e1, s1, f1, hi, rfl, q1⟩
  by_cases h : i = items.length
  · refine .inl ?_
    rw [h, List.drop_length] at q1
    simp only [forF] at q1
    obtain ⟨hs, q1⟩ := q1.sized
    refine ⟨(dlv i R1 H1 T1 ((Lat.refl R H).ext e1 st) s1 hs).1 (by omega), ?_⟩
    exact hK _ _ _ _ (q1.ok s1) σ1 f1
  · refine .inr ?_
    have hlt : i < items.length := by omega
    rw [List.drop_eq_getElem_cons hlt] at q1
    simp only [forF] at q1
    obtain ⟨hs, q1⟩ := q1.sized
    obtain ⟨hgo, hy⟩ := (dlv i R1 H1 T1 ((Lat.refl R H).ext e1 st) s1 hs).2 _ (List.getElem?_eq_getElem hlt)
    refine ⟨hgo, fun σ' H' => forW Z C XE R H src (fun x δ T => (asg C t x δ T).bind fun δ1 T1 => execs C body δ1 T1) items K (i + 1) (items.length - (i + 1)) σ' H', fun σ' H' w => ⟨_, by omega, w⟩, fun x H2 hyl => ?_⟩
    obtain ⟨R2, e2, s2, p2⟩ := hy x H2 hyl
    rw [bind_ok] at q1
    refine ⟨R2, δ1, T1, items[i], f1.mono e2.le, s2, p2, (q1.mono e2).bind.sto.imp fun δ2 T2 R3 H3 _ ⟨e3, s3, k3⟩ σ2 f2 _ => ?_⟩
    refine ⟨R3, δ2, T2, f2, s3, k3.σ.bind.sto.imp fun fl T4 R4 H4 _ ⟨e4, s4, k4⟩ => ?_⟩
    have e04 := ((e1.trans e2).trans e3).trans e4
    obtain ⟨f, δ4⟩ := fl
    cases f with
    | next => exact fun σ' f' => ⟨R4, δ4, T4, e04, s4, f', by omega, rfl, k4.σ⟩
    | cnt => exact fun σ' f' => ⟨R4, δ4, T4, e04, s4, f', by omega, rfl, k4.σ⟩
    | brk => exact fun σ' f' => hK _ _ _ _ (k4.ok s4) σ' f'
    | ret v => exact fun x p => hK _ _ _ _ (k4.ok s4) x p
theorem PSimp' {st : Stmt} {t t' : TS} (h : PS X st t) (w : ∀ D σ H, t' D σ H → t D σ H) : PS X st t' := PSimp h w
theorem s_for {iter : PySem.Expr} {body : List Stmt} {it : It} {t : Tg} {mbody : Ss} (hx : XOk X Z C) (hp : PassesOwn (model X.prog X.w) X.A X.env X.xe) (hi : PI X tg iter (tIt Z C (anyX XE) it)) (hg : PG X tg (tG Z C (anyX XE) t)) (hb : PSs X body (tSs Z C XE mbody))
    (hs : ∀ x, foldedSetIterable iter X.env x = pure x := by intro _; rfl) : PS X (.For tg iter body [] pos) (tS Z C XE (.for_ t it mbody)) :=
  PSimp (ps_for hp hx.calm hi hg hb hs) fun D σ H ⟨R, δ, T, fr, st, q⟩ => by
    simp only [exec] at q
    refine ⟨R, δ, T, fr, st, q.bind.sto.imp fun d T1 R1 H1 _ ⟨e1, s1, k1⟩ J hlo dlv => ?_⟩
    have f1 := fr.mono e1.le
    obtain ⟨items, src, lk⟩ := d
    cases lk with
    | none => exact for_go (dlv R1 rfl) s1 f1 (fun _ _ _ _ h => h) k1
    | some k =>
      obtain ⟨ks, vs, hT⟩ := hlo
      obtain ⟨o, kv, vv, g1, g2, g3, g4, g5, g6, g7⟩ := lock_out s1 hT k1
      refine for_go (dlv _ ⟨o, g1, rfl⟩) g6 (f1.mono g5) (fun p T2 R2 H2 h => ?_) (g7 (anyX XE))
      obtain ⟨f, δ2⟩ := p
      cases f with
      | next => exact fun σ' f' => h σ' (f'.mono0 free_le0)
      | cnt => exact fun σ' f' => h σ' (f'.mono0 free_le0)
      | brk => exact fun σ' f' => h σ' (f'.mono0 free_le0)
      | ret v => exact fun x p => h x (Rp.mono0 free_le0 _ _ p)
def whileW (Z : Zt) (C : Ctx) (XE : XT) (mc : E) (body : Ss) (K : Fl × List MV → Layer → Rn → Hp → Prop) (m : Nat) (σ : L2.St) (H : Hp) : Prop :=
  ∃ R δ T, Frm Z R δ σ ∧ Sto Z R C.B T H ∧ Out Z C.B (anyX XE) σ (whileF (fun δ T => (ev C mc δ T).bind fun x T1 => optR (truthy C T1 x) T1) (fun δ T => execs C body δ T) m δ T) R H K
theorem s_while {body : List Stmt} {mbody : Ss} (hp : PassesOwn (model X.prog X.w) X.A X.env X.xe) (hc : PT X c (tT Z C (anyX XE) mc)) (hb : PSs X body (tSs Z C XE mbody)) : PS X (.While c body [] pos) (tS Z C XE (.while_ mc mbody)) :=
  PSimp (ps_while hp hc hb) fun D σ H ⟨R, δ, T, fr, st, q⟩ => by
    simp only [exec] at q
    refine ⟨whileW Z C XE mc mbody (kS Z D), ⟨C.W, R, δ, T, fr, st, q⟩, ?_⟩
    rintro m σ1 H1 ⟨R1, δ1, T1, f1, s1, q1⟩
    cases m with
    | zero => exact q1.elim
    | succ m =>
      simp only [whileF] at q1
      refine ⟨R1, δ1, T1, f1, s1, q1.bind.sto.imp fun k T2 R2 H2 _ ⟨e2, s2, k2⟩ => ?_⟩
      cases k with
      | false => exact k2.ok s2 σ1 (f1.mono e2.le)
      | true =>
        refine ⟨whileW Z C XE mc mbody (kS Z D) m, fun σ' H' w => ⟨m, Nat.lt_succ_self _, w⟩, ?_⟩
        have k2 := k2.ifT rfl
        refine ⟨R2, δ1, T2, f1.mono e2.le, s2, k2.bind.sto.imp fun fl T4 R4 H4 _ ⟨e4, s4, k4⟩ => ?_⟩
        obtain ⟨f, δ4⟩ := fl
        cases f with
        | next => exact fun σ' f' => ⟨R4, δ4, T4, f', s4, k4.σ⟩
        | cnt => exact fun σ' f' => ⟨R4, δ4, T4, f', s4, k4.σ⟩
        | brk => exact fun σ' f' => k4.ok s4 σ' f'
        | ret v => exact fun x p => k4.ok s4 x p
end
end Mini
end
section
set_option linter.all false
set_option maxRecDepth 100000
set_option maxHeartbeats 2000000
namespace Mini
open PySem PySem.Spec PyProof.Rows L2

theorem Frm.wipe {Z : Zt} {R : Rn} {δ : List MV} {σ : L2.St} (h : Frm Z R δ σ) : ∀ vs : List Nat, Frm Z R (Mini.wipe δ vs) (L2.wipe σ vs)
  | [] => h
  | v :: vs => by
    have ih := Frm.wipe h vs
    refine ⟨?_, fun i x hx => ?_⟩
    · show ((Mini.wipe δ vs).set v .undef).length = ((L2.wipe σ vs).set v none).length
      rw [List.length_set, List.length_set]; exact ih.1
    · have hx : ((Mini.wipe δ vs).set v .undef)[i]? = some x := hx
      by_cases e : v = i
      · subst e
        have hl : v < (Mini.wipe δ vs).length := by
          have := (List.getElem?_eq_some_iff.mp hx).1
          rwa [List.length_set] at this
        rw [List.getElem?_set_self hl] at hx
        cases hx; trivial
      · rw [List.getElem?_set_ne e] at hx
        have := ih.2 i x hx
        have e2 : (L2.wipe σ (v :: vs))[i]? = (L2.wipe σ vs)[i]? := by
          show ((L2.wipe σ vs).set v none)[i]? = _
          rw [List.getElem?_set_ne e]
        rw [e2]
        exact this
theorem calm_calm {α : Type} (r : Res α) : calm (calm r) = calm r := by cases r <;> rfl
theorem wipe_wipe (vs : List Nat) (τ : L2.St) : L2.wipe (L2.wipe τ vs) vs = L2.wipe τ vs := Agree.wipe (is := vs) ⟨wipe_length _ _, fun i hi => wipe_out hi⟩ fun i h => h
theorem le_free {R0 R : Rn} {a : Addr} (e : Le R0 R) (h : R0.lk a = none) : Le R0 (R.free a) := ⟨e.F, e.n, e.φ, fun b u hb => by
  have hb2 : b ≠ a := fun z => by subst z; rw [h] at hb; cases hb
  show (if b = a then none else R.lk b) = some u
  rw [if_neg hb2]
  exact e.lk _ _ hb⟩
theorem hold_free {R : Rn} {a : Addr} {o : Obj} (h : R.lk a = none) : (R.hold a o).free a = R := by
  have : (fun b => if b = a then none else if b = a then some o else R.lk b) = R.lk := by
    funext b
    by_cases e : b = a
    · rw [if_pos e, e, h]
    · rw [if_neg e, if_neg e]
  show ({ R with lk := fun b => if b = a then none else if b = a then some o else R.lk b } : Rn) = R
  rw [this]
theorem Ext.free {L : Nat} {R1 R2 : Rn} {H1 H2 : Hp} {a : Addr} (e : Ext L R1 R2 H1 H2) : Ext L (R1.free a) (R2.free a) H1 H2 :=
  ⟨⟨e.le.F, e.le.n, e.le.φ, fun b u hb => by
    have hb : (if b = a then none else R1.lk b) = some u := hb
    show (if b = a then none else R2.lk b) = some u
    by_cases z : b = a
    · rw [if_pos z] at hb; cases hb
    · rw [if_neg z] at hb ⊢; exact e.le.lk _ _ hb⟩, e.keep, e.new, e.occ, e.newF⟩

/-! ### comprehensions -/
/-- what is kept through a comprehension's loop, the object D that is made apart -/
structure Kept (Z : Zt) (B : List Layer) (D : Addr) (R0 : Rn) (H0 : Hp) (P : Rn → Hp → Prop) : Prop where
  lat : ∀ R H, P R H → Lat B.length R0 R H0 H
  ext : ∀ R1 H1 T1 R2 H2, P R1 H1 → Sto Z R1 B T1 H1 → Ext B.length R1 R2 H1 H2 → P R2 H2
  put : ∀ R1 H1 o, P R1 H1 → (∀ l k, k < R1.n l → R1.φ l k ≠ D) → P R1 (upd H1 D o)
theorem kept0 {Z : Zt} {B : List Layer} {T : Layer} {D : Addr} {R0 : Rn} {H0 : Hp} (st : Sto Z R0 B T H0) (hD : H0 D = none) : Kept Z B D R0 H0 fun R H => Ext B.length R0 R H0 H ∧ Lat B.length R0 R H0 H :=
  ⟨fun _ _ h => h.2, fun R1 H1 T1 R2 H2 h s e => ⟨h.1.trans e, h.2.ext e s⟩, fun R1 H1 o h hc => ⟨h.1.put hD, h.2.put hc⟩⟩
/-- a loop within -/
theorem kept_in {Z : Zt} {B : List Layer} {D : Addr} {R0 : Rn} {H0 : Hp} {P : Rn → Hp → Prop} (K : Kept Z B D R0 H0 P) (R4 : Rn) (H4 : Hp) : Kept Z B D R4 H4 fun R H => P R H ∧ Lat B.length R4 R H4 H :=
  ⟨fun _ _ h => h.2, fun R1 H1 T1 R2 H2 h s e => ⟨K.ext _ _ _ _ _ h.1 s e, h.2.ext e s⟩, fun R1 H1 o h hc => ⟨K.put _ _ _ h.1 hc, h.2.put hc⟩⟩
/-- .. over a dict that is held meanwhile -/
theorem kept_hold {Z : Zt} {B : List Layer} {D : Addr} {R0 : Rn} {H0 : Hp} {P : Rn → Hp → Prop} (K : Kept Z B D R0 H0 P) (R4 : Rn) (H4 : Hp) {k : Nat} {o : Obj} (hk : k < R4.n B.length) :
    Kept Z B D (R4.hold (R4.φ B.length k) o) H4 fun R H => P (R.free (R4.φ B.length k)) H ∧ Lat B.length (R4.hold (R4.φ B.length k) o) R H4 H :=
  ⟨fun _ _ h => h.2, fun R1 H1 T1 R2 H2 h s e => by
    have hφ : R1.φ B.length k = R4.φ B.length k := h.2.le.φ _ _ hk
    have s2 := s.free (k := k) (o := o) (Nat.lt_of_lt_of_le hk (h.2.le.n _)) (by rw [hφ]; exact h.2.le.lk _ _ hold_at)
    rw [hφ] at s2
    exact ⟨K.ext _ _ _ _ _ h.1 s2 e.free, h.2.ext e s⟩, fun R1 H1 o h hc => ⟨K.put _ _ _ h.1 hc, h.2.put hc⟩⟩

section
variable {X : Cx} {Z : Zt} {C : Ctx} {XE : XT} {σ : L2.St} {H : Hp} {R : Rn} {T : Layer} {e a b c : PySem.Expr} {ma mb mc : E} {pos p : Pos} {pins : List (Addr × Obj)} {s : Shared} {tg tg1 : PySem.Expr}
/-- the list D that is made, acc so far; what is to come of r ends as Fin asks -/
def OutF (Z : Zt) (B : List Layer) (P : Rn → Hp → Prop) (D : Addr) (Fin : Hp → Prop) (acc : List MV) (r : Res (List MV)) : Prop := match r with
  | .ok ys T => acc.length + ys.length < big ∧ ∀ H' R' vs, P R' H' → Sto Z R' B T H' → Loose R' H' D (.lst vs) → Rps Z R' (acc ++ ys) vs → Fin H'
  | _ => False
/-- one turn: r's list is appended, then rest -/
theorem OutF.bindO {α : Type} {B : List Layer} {P : Rn → Hp → Prop} {D : Addr} {Fin : Hp → Prop} {acc : List MV} {r : Res α} {f : α → Layer → Res (List MV)} {g : List MV → Layer → Res (List MV)}
    (h : OutF Z B P D Fin acc ((calm (r.bind f)).bind g)) : Out Z B nX σ r R H fun a T _ _ => OutF Z B P D Fin acc ((calm (f a T)).bind g) := by
  cases r with
  | ok a T => exact fun _ _ _ _ => h
  | exc c p T => exact h.elim
  | stuck => exact h.elim
abbrev andThen (r : Res (List MV)) (rest : Layer → Res (List MV)) : Res (List MV) := r.bind fun ys T1 => (rest T1).bind fun zs T2 => .ok (ys ++ zs) T2
theorem outF_nil {B : List Layer} {P : Rn → Hp → Prop} {D : Addr} {Fin : Hp → Prop} {acc : List MV} {rest : Layer → Res (List MV)} (h : OutF Z B P D Fin acc (andThen (.ok [] T) rest)) : OutF Z B P D Fin acc (rest T) := by
  revert h
  show OutF Z B P D Fin acc ((rest T).bind _) → _
  cases rest T with
  | ok zs T5 => exact fun o => o
  | exc c p T5 => exact fun o => o
  | stuck => exact fun o => o
theorem outF_app {B : List Layer} {P : Rn → Hp → Prop} {D : Addr} {Fin : Hp → Prop} {acc ys : List MV} {rest : Layer → Res (List MV)} (h : OutF Z B P D Fin acc (andThen (.ok ys T) rest)) : acc.length + ys.length < big ∧ OutF Z B P D Fin (acc ++ ys) (rest T) := by
  revert h
  show OutF Z B P D Fin acc ((rest T).bind fun zs T2 => .ok (ys ++ zs) T2) → _
  cases rest T with
  | ok zs T5 =>
    intro o
    obtain ⟨h1, h2⟩ := o
    simp only [List.length_append] at h1
    exact ⟨by omega, by simp only [List.length_append]; omega, fun H' R' vs a b c d => h2 H' R' vs a b c (by rw [← List.append_assoc]; exact d)⟩
  | exc c p T5 => exact fun o => o.elim
  | stuck => exact fun o => o.elim
def compW (Z : Zt) (C : Ctx) (P : Rn → Hp → Prop) (D : Addr) (Fin : Hp → Prop) (src : List (Nat × Nat × Cell)) (turn : MV → Layer → Res (List MV)) (items : List MV) (i m : Nat) (H : Hp) : Prop :=
  ∃ R T acc vs, P R H ∧ Sto Z R C.B T H ∧ Loose R H D (.lst vs) ∧ Rps Z R acc vs ∧ i ≤ items.length ∧ m = items.length - i ∧ OutF Z C.B P D Fin acc (compF C src turn (items.drop i) T)
/-- what a turn must do -/
def TurnOk (Z : Zt) (C : Ctx) (P : Rn → Hp → Prop) (D : Addr) (Fin : Hp → Prop) (turn : MV → Layer → Res (List MV)) (body : V → Hp → (Hp → Prop) → Prop) : Prop :=
  ∀ (x : MV) (v : V) (R : Rn) (T : Layer) (H : Hp) (acc : List MV) (vs : List V) (rest : Layer → Res (List MV)) (Nx : Hp → Prop), P R H → Sto Z R C.B T H → Rp Z R x v → Loose R H D (.lst vs) → Rps Z R acc vs →
      OutF Z C.B P D Fin acc (andThen (calm (turn x T)) rest) →
      (∀ R' T' H' acc' vs', P R' H' → Sto Z R' C.B T' H' → Loose R' H' D (.lst vs') → Rps Z R' acc' vs' → OutF Z C.B P D Fin acc' (rest T') → Nx H') → body v H Nx
theorem comp_go {src : List (Nat × Nat × Cell)} {items : List MV} {J : L2.It} {turn : MV → Layer → Res (List MV)} {R0 : Rn} {H0 : Hp} {P : Rn → Hp → Prop} {D : Addr} {Fin : Hp → Prop} {acc : List MV} {vs : List V} {body : V → Hp → (Hp → Prop) → Prop}
    (K : Kept Z C.B D R0 H0 P) (dlv : Dlv Z C R0 H0 src items J) (e0 : P R H) (st : Sto Z R C.B T H) (hD : Loose R H D (.lst vs)) (hr : Rps Z R acc vs) (q : OutF Z C.B P D Fin acc (compF C src turn items T))
    (hb : TurnOk Z C P D Fin turn body) (hcalm : ∀ x T, calm (turn x T) = turn x T) :
    ∃ W : Nat → Nat → Hp → Prop, (∃ m, W 0 m H) ∧ ∀ i m H, W i m H →
      (J.stop i H ∧ Fin H) ∨ (J.go i H ∧ ∃ Nx : Hp → Prop, (∀ H', Nx H' → ∃ m', m' < m ∧ W (i + 1) m' H') ∧ ∀ x H', J.yld i H x H' → body x H' Nx) := by
  refine ⟨compW Z C P D Fin src turn items, ⟨_, R, T, acc, vs, e0, st, hD, hr, Nat.zero_le _, rfl, by rw [List.drop_zero]; exact q⟩, ?_⟩
  rintro i m H1 ⟨R1, T1, acc1, vs1, e1, s1, l1, r1, hi, rfl, q1⟩
  by_cases h : i = items.length
  · refine .inl ?_
    rw [h, List.drop_length] at q1
    simp only [compF] at q1
    by_cases hs : still C T1 src = true
    · rw [if_pos hs] at q1
      exact ⟨(dlv i R1 H1 T1 (K.lat _ _ e1) s1 hs).1 (by omega), q1.2 H1 R1 vs1 e1 s1 l1 (by rw [List.append_nil]; exact r1)⟩
    · rw [if_neg hs] at q1; exact q1.elim
  · refine .inr ?_
    have hlt : i < items.length := by omega
    rw [List.drop_eq_getElem_cons hlt] at q1
    simp only [compF] at q1
    by_cases hs : still C T1 src = true
    · rw [if_pos hs] at q1
      obtain ⟨hgo, hy⟩ := (dlv i R1 H1 T1 (K.lat _ _ e1) s1 hs).2 _ (List.getElem?_eq_getElem hlt)
      refine ⟨hgo, fun H' => compW Z C P D Fin src turn items (i + 1) (items.length - (i + 1)) H', fun H' w => ⟨_, by omega, w⟩, fun x H2 hyl => ?_⟩
      obtain ⟨R2, e2, s2, p2⟩ := hy x H2 hyl
      rw [← hcalm] at q1
      exact hb _ x R2 T1 H2 acc1 vs1 (compF C src turn (items.drop (i + 1))) _ (K.ext _ _ _ _ _ e1 s1 e2) s2 p2 (l1.ext e2) (Rps.mono e2.le _ _ r1) q1 fun R' T' H' acc' vs' e' s' l' r' o' => ⟨R', T', acc', vs', e', s', l', r', by omega, rfl, o'⟩
    · rw [if_neg hs] at q1; exact q1.elim
/-- tests of a comprehension -/
def tQ (Z : Zt) (C : Ctx) (XE : XT) (cs : Es) : TT := fun σ H Q => ∃ R δ T, Frm Z R δ σ ∧ Sto Z R C.B T H ∧ Out Z C.B XE σ (evTests C cs δ T) R H fun b _ _ H' => Q b H'
theorem PTsimp {ifs : List PySem.Expr} {t t' : TT} (h : PTs X ifs t) (w : ∀ σ H Q, t' σ H Q → t σ H Q) : PTs X ifs t' := ⟨fun pins s σ H Q I q => h.run pins s σ H Q I (w σ H Q q)⟩
theorem q_nil : PTs X [] (tQ Z C XE .nil) := PTsimp pts_nil fun σ H Q ⟨R, δ, T, fr, st, q⟩ => by
  simp only [evTests] at q
  exact q.ok st
theorem q_one (h : PT X c (tT Z C XE mc)) : PTs X [c] (tQ Z C XE (.cons mc .nil)) := PTsimp (pts_one h) fun σ H Q ⟨R, δ, T, fr, st, q⟩ => by
  simp only [evTests, ← bind_ok] at q
  refine ⟨R, δ, T, fr, st, q.bind.sto.imp fun b T1 R1 H1 _ ⟨e1, s1, k⟩ => ?_⟩
  cases b with
  | true => exact k.ok s1
  | false => exact k.ok s1
/-- one turn of a comprehension, the target and the tests -/
theorem turn_head {R0 : Rn} {H0 : Hp} {P : Rn → Hp → Prop} {D : Addr} {Fin : Hp → Prop} {t : Tg} {cs : Es} {δw : List MV} {σw : L2.St} {os : List Nat} {x : MV} {v : V} {acc : List MV} {vs : List V} {rest : Layer → Res (List MV)} {f : List MV → Layer → Res (List MV)} {Nx : Hp → Prop} {K : L2.St → Hp → Prop} (KP : Kept Z C.B D R0 H0 P) (ho : ∀ i ∈ t.own, i ∈ os)
    (hw : L2.wipe σw os = σw) (fr : Frm Z R δw σw) (e0 : P R H) (s0 : Sto Z R C.B T H) (p0 : Rp Z R x v) (l0 : Loose R H D (.lst vs)) (r0 : Rps Z R acc vs)
    (o0 : OutF Z C.B P D Fin acc (andThen (calm ((asg C t x δw T).bind fun δ1 T1 => (evTests C cs δ1 T1).bind fun b T2 => if b then f δ1 T2 else .ok [] T2)) rest))
    (nx : ∀ R' T' H' acc' vs', P R' H' → Sto Z R' C.B T' H' → Loose R' H' D (.lst vs') → Rps Z R' acc' vs' → OutF Z C.B P D Fin acc' (rest T') → Nx H')
    (hK : ∀ R3 δ1 σ2 T3 H3, P R3 H3 → Sto Z R3 C.B T3 H3 → Frm Z R3 δ1 σ2 → Loose R3 H3 D (.lst vs) → Rps Z R3 acc vs → OutF Z C.B P D Fin acc (andThen (calm (f δ1 T3)) rest) → K σ2 H3) :
    tG Z C nX t v σw H fun σ2 H2 => L2.wipe σ2 os = σw ∧ tQ Z C nX cs σ2 H2 fun b H3 => if b = true then K σ2 H3 else Nx H3 := by
  refine ⟨R, _, T, x, fr, s0, p0, o0.bindO.sto.imp fun δ1 T2 R2 H2 _ ⟨e2, s2, o2⟩ σ2 f2 ag => ?_⟩
  have P2 := KP.ext _ _ _ _ _ e0 s0 e2
  refine ⟨(ag.wipe ho).trans hw, R2, δ1, T2, f2, s2, o2.bindO.sto.imp fun b T3 R3 H3 _ ⟨e3, s3, o3⟩ => ?_⟩
  have P3 := KP.ext _ _ _ _ _ P2 s2 e3
  have r3 := Rps.mono e3.le _ _ (Rps.mono e2.le _ _ r0)
  cases b with
  | false => exact nx R3 T3 H3 acc vs P3 s3 ((l0.ext e2).ext e3) r3 (outF_nil o3)
  | true => exact hK R3 δ1 σ2 T3 H3 P3 s3 (f2.mono e3.le) ((l0.ext e2).ext e3) r3 o3
/-- .. and its element -/
theorem turn_elt {R0 : Rn} {H0 : Hp} {P : Rn → Hp → Prop} {D : Addr} {Fin : Hp → Prop} {δ1 : List MV} {me : E} {acc : List MV} {vs : List V} {rest : Layer → Res (List MV)} {Nx : Hp → Prop} (KP : Kept Z C.B D R0 H0 P) (fr : Frm Z R δ1 σ) (e0 : P R H) (s0 : Sto Z R C.B T H) (l0 : Loose R H D (.lst vs)) (r0 : Rps Z R acc vs)
    (o0 : OutF Z C.B P D Fin acc (andThen (calm ((ev C me δ1 T).bind fun y T3 => .ok [y] T3)) rest))
    (nx : ∀ R' T' H' acc' vs', P R' H' → Sto Z R' C.B T' H' → Loose R' H' D (.lst vs') → Rps Z R' acc' vs' → OutF Z C.B P D Fin acc' (rest T') → Nx H') :
    tE Z C nX me σ H fun y H4 => ∃ acc, H4 D = some (.lst acc) ∧ acc.length < sizeLine ∧ Nx (upd H4 D (.lst (acc ++ [y]))) := by
  refine ⟨R, δ1, T, fr, s0, o0.bindO.sto.imp fun y T4 R4 H4 _ ⟨e4, s4, o4⟩ vy py => ?_⟩
  have l4 := l0.ext e4
  have r4 := Rps.mono e4.le _ _ r0
  obtain ⟨l5, s5⟩ := l4.put s4 (.lst (vs ++ [vy]))
  obtain ⟨k1, k2⟩ := outF_app (ys := [y]) o4
  exact ⟨vs, l4.at_, by rw [r4.len]; exact Nat.lt_of_lt_of_le (Nat.lt_of_le_of_lt (Nat.le_add_right _ _) k1) big_line, nx R4 T4 _ (acc ++ [y]) (vs ++ [vy]) (KP.put _ _ _ (KP.ext _ _ _ _ _ e0 s0 e4) l4.c) s5 l5 (Rps.append r4 (Rps.cons py Rps.nil)) k2⟩
/-- the loop of a whole comprehension -/
theorem loop_fin {Q : VK} {D : Addr} {src : List (Nat × Nat × Cell)} {turn : MV → Layer → Res (List MV)} {items : List MV} {lk : Option Nat} {J : L2.It} {body : V → Hp → (Hp → Prop) → Prop} (st : Sto Z R C.B T H) (hD : H D = none) (hlo : LockOk lk T)
    (dlv : ∀ R1, LockSt C lk T R H R1 → Dlv Z C R1 H src items J)
    (q : OutL Z C.B XE σ ((calm (lockR lk (compF C src turn items) T)).bind fun ys T2 => if ys.length < big then .ok (.lst ys) T2 else .stuck) R H Q) (hcalm : ∀ x T, calm (turn x T) = turn x T)
    (hb : ∀ (R0 : Rn) (P : Rn → Hp → Prop) (Fin : Hp → Prop), Le0 R R0 → Kept Z C.B D R0 H P → TurnOk Z C P D Fin turn body) :
    ∃ W : Nat → Nat → Hp → Prop, (∃ m, W 0 m (upd H D (.lst []))) ∧ ∀ i m H, W i m H →
      (J.stop i H ∧ Q (.ref D) H) ∨ (J.go i H ∧ ∃ Nx : Hp → Prop, (∀ H', Nx H' → ∃ m', m' < m ∧ W (i + 1) m' H') ∧ ∀ x H', J.yld i H x H' → body x H' Nx) := by
  cases lk with
  | none =>
    obtain ⟨lD, sD, eD⟩ := Loose.new (L := C.B.length) st hD (.lst [])
    have K := kept0 st hD
    refine comp_go (Fin := fun H' => Q (.ref D) H') K (dlv R rfl) ⟨eD, (Lat.refl R H).ext eD st⟩ sD lD Rps.nil ?_ (hb R _ _ (Le.refl R).to0 K) hcalm
    revert q
    unfold lockR
    simp only
    generalize compF C src turn items T = r
    intro q
    cases r with
    | ok ys T3 =>
      obtain ⟨h1, h2⟩ := OutL.sized q
      exact ⟨by simpa using h1, fun H' R' vs e' s' l' r' => h2 D _ H' R' l' s' e'.1 hD ⟨vs, rfl, r'⟩⟩
    | exc c p T3 => exact q.elim
    | stuck => exact q.elim
  | some k =>
    obtain ⟨ks0, vs0, hT⟩ := hlo
    obtain ⟨ob, kv, vv, g1, g2, g3, g4, g5, g6⟩ := st.hold hT
    have hk : k < R.n C.B.length := by rw [st.n, sz_top]; exact (List.getElem?_eq_some_iff.mp hT).1
    obtain ⟨lD, sD, eD⟩ := Loose.new (L := C.B.length) g6 hD (.lst [])
    have K := kept_hold (o := ob) (kept0 st hD) R H hk
    have le := hold_le (o := ob) g5
    have e1 : Ext C.B.length R ((R.hold (R.φ C.B.length k) ob).free (R.φ C.B.length k)) H (upd H D (.lst [])) := ⟨le_free le g5, eD.keep, eD.new, eD.occ, eD.newF⟩
    refine comp_go (Fin := fun H' => Q (.ref D) H') K (dlv _ ⟨ob, g1, rfl⟩) ⟨⟨e1, (Lat.refl R H).ext e1 st⟩, (Lat.refl _ H).ext eD g6⟩ sD lD Rps.nil ?_ (hb _ _ _ le.to0 K) hcalm
    revert q
    unfold lockR
    simp only
    generalize compF C src turn items (holdC T k) = r
    intro q
    cases r with
    | ok ys T3 =>
      obtain ⟨h1, h2⟩ := OutL.sized q
      refine ⟨by simpa using h1, fun H' R' vs e' s' l' r' => ?_⟩
      have hφ : R'.φ C.B.length k = R.φ C.B.length k := e'.2.le.φ _ _ hk
      have s2 := s'.free (k := k) (o := ob) (Nat.lt_of_lt_of_le hk (e'.2.le.n _)) (by rw [hφ]; exact e'.2.le.lk _ _ hold_at)
      rw [hφ] at s2
      exact h2 D _ H' (R'.free (R.φ C.B.length k)) ⟨l'.at_, l'.f, l'.c⟩ s2 e'.1.1 hD ⟨vs, rfl, Rps.mono0 free_le0 _ _ r'⟩
    | exc c p T3 => exact q.elim
    | stuck => exact q.elim
/-- a loop within -/
theorem loop_in {R0 : Rn} {H0 : Hp} {P : Rn → Hp → Prop} {D : Addr} {Fin : Hp → Prop} {acc : List MV} {vs : List V} {rest : Layer → Res (List MV)} {Nx : Hp → Prop} {src : List (Nat × Nat × Cell)} {turn : MV → Layer → Res (List MV)} {items : List MV} {lk : Option Nat} {J : L2.It} {body : V → Hp → (Hp → Prop) → Prop}
    (KP : Kept Z C.B D R0 H0 P) (e0 : P R H) (st : Sto Z R C.B T H) (lD : Loose R H D (.lst vs)) (r0 : Rps Z R acc vs) (hlo : LockOk lk T) (dlv : ∀ R1, LockSt C lk T R H R1 → Dlv Z C R1 H src items J)
    (q : OutF Z C.B P D Fin acc (andThen (calm (lockR lk (compF C src turn items) T)) rest)) (hcalm : ∀ x T, calm (turn x T) = turn x T)
    (nx : ∀ R' T' H' acc' vs', P R' H' → Sto Z R' C.B T' H' → Loose R' H' D (.lst vs') → Rps Z R' acc' vs' → OutF Z C.B P D Fin acc' (rest T') → Nx H')
    (hb : ∀ (R0 : Rn) (P : Rn → Hp → Prop) (Fin : Hp → Prop), Le0 R R0 → Kept Z C.B D R0 H P → TurnOk Z C P D Fin turn body) :
    ∃ W : Nat → Nat → Hp → Prop, (∃ m, W 0 m H) ∧ ∀ i m H, W i m H →
      (J.stop i H ∧ Nx H) ∨ (J.go i H ∧ ∃ Nx : Hp → Prop, (∀ H', Nx H' → ∃ m', m' < m ∧ W (i + 1) m' H') ∧ ∀ x H', J.yld i H x H' → body x H' Nx) := by
  cases lk with
  | none =>
    have K := kept_in KP R H
    refine comp_go (Fin := Nx) K (dlv R rfl) ⟨e0, Lat.refl R H⟩ st lD r0 ?_ (hb R _ _ (Le.refl R).to0 K) hcalm
    revert q
    unfold lockR
    simp only
    generalize compF C src turn items T = r
    intro q
    cases r with
    | ok ys T3 =>
      obtain ⟨h1, h2⟩ := outF_app (ys := ys) q
      exact ⟨h1, fun H' R' vs e' s' l' r' => nx R' T3 H' (acc ++ ys) vs e'.1 s' l' r' h2⟩
    | exc c p T3 => exact q.elim
    | stuck => exact q.elim
  | some k =>
    obtain ⟨ks0, vs0, hT⟩ := hlo
    obtain ⟨ob, kv, vv, g1, g2, g3, g4, g5, g6⟩ := st.hold hT
    have hk : k < R.n C.B.length := by rw [st.n, sz_top]; exact (List.getElem?_eq_some_iff.mp hT).1
    have le := hold_le (o := ob) g5
    have K := kept_hold (o := ob) KP R H hk
    refine comp_go (Fin := Nx) K (dlv _ ⟨ob, g1, rfl⟩) ⟨(hold_free (o := ob) g5).symm ▸ e0, Lat.refl _ H⟩ g6 ⟨lD.at_, lD.f, lD.c⟩ (Rps.mono le _ _ r0) ?_ (hb _ _ _ le.to0 K) hcalm
    revert q
    unfold lockR
    simp only
    generalize compF C src turn items (holdC T k) = r
    intro q
    cases r with
    | ok ys T3 =>
      obtain ⟨h1, h2⟩ := outF_app (ys := ys) q
      refine ⟨h1, fun H' R' vs e' s' l' r' => ?_⟩
      have hφ : R'.φ C.B.length k = R.φ C.B.length k := e'.2.le.φ _ _ hk
      have s2 := s'.free (k := k) (o := ob) (Nat.lt_of_lt_of_le hk (e'.2.le.n _)) (by rw [hφ]; exact e'.2.le.lk _ _ hold_at)
      rw [hφ] at s2
      exact nx (R'.free (R.φ C.B.length k)) (freeC T3 k) H' (acc ++ ys) vs e'.1 s2 ⟨l'.at_, l'.f, l'.c⟩ (Rps.mono0 free_le0 _ _ r') h2
    | exc c p T3 => exact q.elim
    | stuck => exact q.elim
theorem comp_read {own : List (Str × Nat)} {it : It} {t : Tg} {cs : Es} {me : E} (ho : ∀ i ∈ t.own, i ∈ own.map (·.2)) : ∀ σ H Q, tLD Z C XE (.comp (own.map (·.2)) t it cs me) σ H Q → tLc (tIt Z C XE it) (tG Z C nX t) (tQ Z C nX cs) (tE Z C nX me) (own.map (·.2)) σ H Q :=
  fun σ H Q ⟨R, δ, T, fr, st, q⟩ => by
    simp only [evL] at q
    refine ⟨R, δ, T, fr, st, (q.bind st).sto.imp fun d T1 R1 H1 _ ⟨e1, s1, k1⟩ J hlo dlv D hD => ?_⟩
    have f1 := (fr.mono e1.le).wipe (own.map (·.2))
    refine loop_fin (body := fun x H' Nx => tG Z C nX t x (L2.wipe σ (own.map (·.2))) H' fun σ2 H2 => L2.wipe σ2 (own.map (·.2)) = L2.wipe σ (own.map (·.2)) ∧ tQ Z C nX cs σ2 H2 fun b H3 => if b = true then _ else Nx H3) s1 hD hlo dlv k1 (fun x T => calm_calm _) ?_
    intro R0 P Fin le0 K x v R T H acc vs rest Nx e0 s0 p0 l0 r0 o0 nx
    rw [calm_calm] at o0
    exact turn_head K ho (wipe_wipe _ _) ((f1.mono0 le0).mono (K.lat _ _ e0).le) e0 s0 p0 l0 r0 o0 nx fun R3 δ1 σ2 T3 H3 e3 s3 f3 l3 r3 o3 => turn_elt K f3 e3 s3 l3 r3 o3 nx
/-- [e for t in it if cs] -/
theorem l_comp {elt iter : PySem.Expr} {ifs : List PySem.Expr} {scope : Scope} {own : List (Str × Nat)} {it : It} {t : Tg} {cs : Es} {me : E} (hx : XOk X Z C) (hi : PI X tg iter (tIt Z C XE it)) (ok : BlkOk X.N X.env.scope scope own) (ho : ∀ i ∈ t.own, i ∈ own.map (·.2))
    (hg : ∀ (s : Shared) (H : Hp) (A : Addr) (cl : List (Str × Addr)) (fp : List Addr), PG (X.blk s H scope (compEnvC scope cl A X.env) fp) tg (tG Z C nX t))
    (ht : ∀ (s : Shared) (H : Hp) (A : Addr) (cl : List (Str × Addr)) (fp : List Addr), PTs (X.blk s H scope (compEnvC scope cl A X.env) fp) ifs (tQ Z C nX cs))
    (he : ∀ (s : Shared) (H : Hp) (A : Addr) (cl : List (Str × Addr)) (fp : List Addr), PE (X.blk s H scope (compEnvC scope cl A X.env) fp) elt (tE Z C nX me))
    (hs : ∀ x, foldedSetIterable iter X.env x = pure x := by intro _; rfl) : PE X (.ListComp elt [⟨tg, iter, ifs, 0⟩] scope pos) (tLD Z C XE (.comp (own.map (·.2)) t it cs me)) :=
  PEimp (pe_lc hx.calm hx.nd hi ok hg ht he hs) (comp_read ho)
end
end Mini
end
section
set_option linter.all false
set_option maxRecDepth 100000
set_option maxHeartbeats 2000000
namespace Mini
open PySem PySem.Spec PyProof.Rows L2
section
variable {X : Cx} {Z : Zt} {C : Ctx} {XE : XT} {σ : L2.St} {H : Hp} {R : Rn} {T : Layer} {e a b c : PySem.Expr} {ma mb mc : E} {pos p : Pos} {pins : List (Addr × Obj)} {s : Shared} {tg tg1 : PySem.Expr}
theorem comp2_read {own : List (Str × Nat)} {vs1 : List Nat} {it it2 : It} {t t2 : Tg} {cs cs2 : Es} {me : E} (ho : ∀ i ∈ t.own, i ∈ own.map (·.2)) (ho2 : ∀ i ∈ t2.own, i ∈ vs1) : ∀ σ H Q, tLD Z C XE (.comp2 (own.map (·.2)) vs1 t it cs t2 it2 cs2 me) σ H Q →
    tLc2 (tIt Z C XE it) (tG Z C nX t) (tQ Z C nX cs) (tIt Z C nX it2) (tG Z C nX t2) (tQ Z C nX cs2) (tE Z C nX me) (own.map (·.2)) vs1 σ H Q :=
  fun σ H Q ⟨R, δ, T, fr, st, q⟩ => by
    simp only [evL] at q
    refine ⟨R, δ, T, fr, st, (q.bind st).sto.imp fun d T1 R1 H1 _ ⟨e1, s1, k1⟩ J hlo dlv D hD => ?_⟩
    have f1 := (fr.mono e1.le).wipe (own.map (·.2))
    refine loop_fin (body := fun x H' Nx => tG Z C nX t x (L2.wipe σ (own.map (·.2))) H' fun σ2 H2 => L2.wipe σ2 (own.map (·.2)) = L2.wipe σ (own.map (·.2)) ∧ tQ Z C nX cs σ2 H2 fun b H3 => if b = true then _ else Nx H3) s1 hD hlo dlv k1 (fun x T => calm_calm _) ?_
    intro R0 P Fin le0 K x v R T H acc vs rest Nx e0 s0 p0 l0 r0 o0 nx
    rw [calm_calm] at o0
    refine turn_head K ho (wipe_wipe _ _) ((f1.mono0 le0).mono (K.lat _ _ e0).le) e0 s0 p0 l0 r0 o0 nx fun R3 δ1 σ2 T3 H3 e3 s3 f3 l3 r3 o3 => ?_
    refine ⟨R3, δ1, T3, f3, s3, o3.bindO.sto.imp fun d2 T4 R4 H4 _ ⟨e4, s4, o4⟩ J1 hlo2 dlv2 => ?_⟩
    have f4 := (f3.mono e4.le).wipe vs1
    refine loop_in (body := fun x H' Nx => tG Z C nX t2 x (L2.wipe σ2 vs1) H' fun σ3 H5 => L2.wipe σ3 vs1 = L2.wipe σ2 vs1 ∧ tQ Z C nX cs2 σ3 H5 fun b H6 => if b = true then _ else Nx H6) K (K.ext _ _ _ _ _ e3 s3 e4) s4 (l3.ext e4) (Rps.mono e4.le _ _ r3) hlo2 dlv2 o4 (fun x T => calm_calm _) nx ?_
    intro R0' P' Fin' le0' K' x' v' R' T' H' acc' vs' rest' Nx' e0' s0' p0' l0' r0' o0' nx'
    rw [calm_calm] at o0'
    exact turn_head K' ho2 (wipe_wipe _ _) ((f4.mono0 le0').mono (K'.lat _ _ e0').le) e0' s0' p0' l0' r0' o0' nx' fun R5 δ5 σ5 T5 H5 e5 s5 f5 l5 r5 o5 => turn_elt K' f5 e5 s5 l5 r5 o5 nx'
/-- [e for t in it if cs for t2 in it2 if cs2] -/
theorem l_comp2 {elt iter iter1 : PySem.Expr} {ifs ifs1 : List PySem.Expr} {scope : Scope} {own : List (Str × Nat)} {vs1 : List Nat} {it it2 : It} {t t2 : Tg} {cs cs2 : Es} {me : E} (hx : XOk X Z C) (hi : PI X tg iter (tIt Z C XE it)) (ok : BlkOk X.N X.env.scope scope own) (hv : ∀ i ∈ vs1, i ∈ own.map (·.2)) (ho : ∀ i ∈ t.own, i ∈ own.map (·.2)) (ho2 : ∀ i ∈ t2.own, i ∈ vs1)
    (hg : ∀ (s : Shared) (H : Hp) (A : Addr) (cl : List (Str × Addr)) (fp : List Addr), PG (X.blk s H scope (compEnvC scope cl A X.env) fp) tg (tG Z C nX t))
    (ht : ∀ (s : Shared) (H : Hp) (A : Addr) (cl : List (Str × Addr)) (fp : List Addr), PTs (X.blk s H scope (compEnvC scope cl A X.env) fp) ifs (tQ Z C nX cs))
    (hi1 : ∀ (s : Shared) (H : Hp) (A : Addr) (cl : List (Str × Addr)) (fp : List Addr), PI (X.blk s H scope (compEnvC scope cl A X.env) fp) tg1 iter1 (tIt Z C nX it2))
    (hg1 : ∀ (s : Shared) (H : Hp) (A : Addr) (cl : List (Str × Addr)) (fp : List Addr), PG (X.blk s H scope (compEnvC scope cl A X.env) fp) tg1 (tG Z C nX t2))
    (ht1 : ∀ (s : Shared) (H : Hp) (A : Addr) (cl : List (Str × Addr)) (fp : List Addr), PTs (X.blk s H scope (compEnvC scope cl A X.env) fp) ifs1 (tQ Z C nX cs2))
    (he : ∀ (s : Shared) (H : Hp) (A : Addr) (cl : List (Str × Addr)) (fp : List Addr), PE (X.blk s H scope (compEnvC scope cl A X.env) fp) elt (tE Z C nX me))
    (hs : ∀ x, foldedSetIterable iter X.env x = pure x := by intro _; rfl) (hs1 : ∀ env x, foldedSetIterable iter1 env x = pure x := by intro _ _; rfl) :
    PE X (.ListComp elt [⟨tg, iter, ifs, 0⟩, ⟨tg1, iter1, ifs1, 0⟩] scope pos) (tLD Z C XE (.comp2 (own.map (·.2)) vs1 t it cs t2 it2 cs2 me)) :=
  PEimp (pe_lc2 hx.calm hx.nd hi ok hv hg ht hi1 hg1 ht1 he hs hs1) (comp2_read ho ho2)
end
end Mini
end
section
set_option linter.all false
set_option maxRecDepth 100000
set_option maxHeartbeats 2000000
namespace Mini
open PySem PySem.Spec PyProof.Rows L2
def emptyD : Obj := { cls := .type "dict", data := .dict #[] }
section
variable {X : Cx}
/-- {k: v for target in iter if ..}: D the new dict -/
def tDcM (wi : TI) (g : TG) (tt : TT) (tk tv : TE) (vs : List Nat) (put : V → V → Addr → Hp → (Hp → Prop) → Prop) : TE := fun σ H Q => wi σ H fun J H1 => ∀ D, H1 D = none → (D == sysModules) = false → ∃ W : Nat → Nat → Hp → Prop, (∃ m, W 0 m (upd H1 D (AtO D emptyD))) ∧ ∀ i m H, W i m H →
  (J.stop i H ∧ Q (.ref D) H) ∨ (J.go i H ∧ ∃ Nx : Hp → Prop, (∀ H', Nx H' → ∃ m', m' < m ∧ W (i + 1) m' H') ∧ ∀ x H', J.yld i H x H' → g x (L2.wipe σ vs) H' fun σ2 H2 => L2.wipe σ2 vs = L2.wipe σ vs ∧ tt σ2 H2 fun b H3 =>
    if b = true then tk σ2 H3 fun y H4 => tv σ2 H4 fun z H5 => put y z D H5 Nx else Nx H3)
/-- the store into the dict that is made, in a block's context -/
def SetD (X : Cx) (put : V → V → Addr → Hp → (Hp → Prop) → Prop) : Prop :=
  ∀ (s3 : Shared) (H3 : Hp) (scope : Scope) (ce : Env) (fp : List Addr) (pins : List (Addr × Obj)) (s : Shared) (σ : L2.St) (H : Hp) (D : Addr) (y z : V) (u w : Value) (Nx : Hp → Prop) (Q : Unit → Shared → Prop), Inv (X.blk s3 H3 scope ce fp) pins σ H s → RelV y u → RelV z w → put y z D H Nx →
    (∀ s' H', Inv (X.blk s3 H3 scope ce fp) pins σ H' s' → Nx H' → Q () s') → wpAny (model X.prog X.w) X.A (dictSet D u w) Q (fun _ _ => False) s
/-- the loop of a dict comprehension, whatever the dict is known as (after the layer's rule for keys that are ints and texts) -/
theorem dm_core {pins : List (Addr × Obj)} {s : Shared} {σ : L2.St} {H : Hp} {Q : VK} {kx vx tg iter : Expr} {ifs : List Expr} {scope : Scope} {own : List (Str × Nat)} {pos pos' : Pos} {wi : TI} {g : TG} {tt : TT} {tk tv : TE} {put : V → V → Addr → Hp → (Hp → Prop) → Prop} {use : Option (Value → Sem Unit)} {Qf : Value → Shared → Prop}
    (hc : X.calm = true) (hN : X.N.Nodup) (I : Inv X pins σ H s) (hi : PI X tg iter wi) (ok : BlkOk X.N X.env.scope scope own)
    (hg : ∀ (s : Shared) (H : Hp) (C : Addr) (cl : List (Str × Addr)) (fp : List Addr), PG (X.blk s H scope (compEnvC scope cl C X.env) fp) tg g) (ht : ∀ (s : Shared) (H : Hp) (C : Addr) (cl : List (Str × Addr)) (fp : List Addr), PTs (X.blk s H scope (compEnvC scope cl C X.env) fp) ifs tt)
    (hk : ∀ (s : Shared) (H : Hp) (C : Addr) (cl : List (Str × Addr)) (fp : List Addr), PE (X.blk s H scope (compEnvC scope cl C X.env) fp) kx tk)
    (he : ∀ (s : Shared) (H : Hp) (C : Addr) (cl : List (Str × Addr)) (fp : List Addr), PE (X.blk s H scope (compEnvC scope cl C X.env) fp) vx tv) (hs : ∀ x, foldedSetIterable iter X.env x = pure x)
    (hset : SetD X put) (h : tDcM wi g tt tk tv (own.map (·.2)) put σ H Q)
    (hRR : ∀ D C s' m H', Inv X pins σ H' s' → Q (.ref D) H' → s'.heap.Ns C m → FpOk X pins H' C → compPost (model X.prog X.w) X.A X.xe use Qf (.ref D) C (.ok .next) s') :
    wpAny (model X.prog X.w) X.A (comprehension (.DictComp kx vx [⟨tg, iter, ifs, 0⟩] scope pos) scope X.env pos' newDict false (eval iter X.env) use) Qf X.xe s := by
  have hfree : ∀ y ∈ scope.names, y.2 = .free → ∃ c, X.env.cells.lookup y.1 = some c := fun y hy e => by
    rcases ok.free y hy e with k | k
    · exact I.ok.has _ (.inl k)
    · exact I.ok.has _ (.inr k)
  refine wpAny_comprehension_free (use := use) rfl hs (closure_ok hfree) ok.kind (fun y hy e => by rw [ok.uniq y hy, e])
    (thn (hi.run pins s σ H _ I h) fun xv s1 hx => thn hx fun itv s2 h2 => ?_)
  obtain ⟨it, fp, tn, J, H2, e, I2, T, st2, f2, q⟩ := h2
  subst e
  refine wpAny_newObj_type (newEnv_comp ?_)
  generalize hD : s2.heap.objs.size = D
  have hDn : H2 D = none := I2.hok.fresh (Nat.le_of_eq hD)
  obtain ⟨W, ⟨m0, w0⟩, turn⟩ := q D hDn (beq_eq_false_iff_ne.mpr fun z => absurd I2.big (by rw [hD, z]; exact Nat.lt_irrefl _))
  -- the new list
  generalize hs3 : ({ s2 with heap := s2.heap.push { cls := .type "dict", data := .dict #[] } } : Shared) = s3
  have I3 : Inv X pins σ (upd H2 D (AtO D emptyD)) s3 := by
    rw [← hs3]
    refine I2.laid (t' := s2.toks) (fun b o e => Heap.get?_push_of_some _ e) (Nat.le_of_eq hD) ?_
    rw [← hD]
    exact ⟨Heap.get?_push_size _ rfl, ⟨_, Heap.get?_push_size _ rfl⟩, fun h1 h2 e k => k _ e⟩
  have h3 : s3.heap = s2.heap.push { cls := .type "dict", data := .dict #[] } := by rw [← hs3]
  have sz : ∀ b ∈ fp, b < s2.heap.objs.size := fun b hb => by
    obtain ⟨o, e, _⟩ := T.obj _ _ st2 b hb
    exact Heap.lt_size e
  have f3 : ∀ b ∈ fp, FpOk X pins (upd H2 D (AtO D emptyD)) b ∧ b < s3.heap.objs.size := fun b hb => by
    have hlt := sz b hb
    refine ⟨⟨?_, (f2 b hb).2⟩, by rw [h3, Heap.size_push]; exact Nat.lt_succ_of_lt hlt⟩
    rw [upd_ne (by rw [← hD]; exact Nat.ne_of_lt hlt)]
    exact (f2 b hb).1
  have st3 : tn 0 s3.heap := T.keep _ _ _ st2 fun b _ o e => by rw [h3]; exact Heap.get?_push_of_some _ e
  have I4 := block_start I3 ok hN f3
  have pg := hg s3 (upd H2 D (AtO D emptyD)) s3.heap.objs.size (cellsFrom (s3.heap.objs.size + 1) scope.names (cloFrom X.env.cells scope.names [])) fp
  have pt := ht s3 (upd H2 D (AtO D emptyD)) s3.heap.objs.size (cellsFrom (s3.heap.objs.size + 1) scope.names (cloFrom X.env.cells scope.names [])) fp
  have pk := hk s3 (upd H2 D (AtO D emptyD)) s3.heap.objs.size (cellsFrom (s3.heap.objs.size + 1) scope.names (cloFrom X.env.cells scope.names [])) fp
  have pe := he s3 (upd H2 D (AtO D emptyD)) s3.heap.objs.size (cellsFrom (s3.heap.objs.size + 1) scope.names (cloFrom X.env.cells scope.names [])) fp
  show codeAny _ _ (.compStart (.DictComp kx vx [⟨tg, iter, ifs, 0⟩] scope pos) 0 (.ref it) (.ref D) (compEnvC scope (cellsFrom (s3.heap.objs.size + 1) scope.names (cloFrom X.env.cells scope.names [])) s3.heap.objs.size X.env)) (compPost (model X.prog X.w) X.A X.xe use Qf (.ref D) s3.heap.objs.size) { s3 with heap := pushCells (s3.heap.push { cls := .type "dict", data := .dict #[] }) scope.names }
  have nfp : ∀ b ∈ fp, (upd H2 D (AtO D emptyD)) b = none := fun b hb => (f3 b hb).1.1
  generalize hce : compEnvC scope (cellsFrom (s3.heap.objs.size + 1) scope.names (cloFrom X.env.cells scope.names [])) s3.heap.objs.size X.env = ce at I4 pg pt pk pe ⊢
  have cL : ce.locals = s3.heap.objs.size := by subst hce; rfl
  generalize hH3 : upd H2 D (AtO D emptyD) = H3 at I3 I4 pg pt pk pe w0 nfp f3
  generalize hs4 : ({ s3 with heap := pushCells (s3.heap.push { cls := .type "dict", data := .dict #[] }) scope.names } : Shared) = s4 at I4 ⊢
  have st4 : tn 0 s4.heap := T.keep _ _ _ st3 fun b _ o e => by rw [← hs4]; exact pushCells_keeps _ _ _ _ (Heap.get?_push_of_some _ e)
  have stat : ∀ {σ' : L2.St} {H' : Hp} {s' : Shared}, Inv (X.blk s3 H3 scope ce fp) [] σ' H' s' → (∀ b ∈ fp, H' b = none) → ∀ b ∈ fp, FpOk (X.blk s3 H3 scope ce fp) [] H' b := fun {σ' H' s'} I' hn b hb =>
    ⟨hn b hb, (I'.ok.exf b hb).1, I'.ok.exfs b hb, .inl hb, fun x c e => (I'.ok.exf b hb).2 x c e, fun p hp => absurd (show p ∈ ([] : List (Addr × Obj)) ++ [] from hp) (by simp)⟩
  have loop : codeAny (model X.prog X.w) X.A (.compLoop (.DictComp kx vx [⟨tg, iter, ifs, 0⟩] scope pos) 0 (.ref it) (.ref D) ce) (compPost (model X.prog X.w) X.A X.xe use Qf (.ref D) s3.heap.objs.size) s4 := by
    refine compLoop_anyD (fun n s' => ∃ i H', Inv (X.blk s3 H3 scope ce fp) [] (L2.wipe σ (own.map (·.2))) H' s' ∧ tn i s'.heap ∧ (∀ b ∈ fp, H' b = none) ∧ W i n H') ?_ m0 ⟨0, H3, I4, st4, nfp, w0⟩
    rintro n s5 ⟨i, H5, I5, st5, n5, w5⟩
    rcases turn i n H5 w5 with ⟨stop, qq⟩ | ⟨go, Nx, hNx, step⟩
    · have td := T.done (X.blk s3 H3 scope ce fp) rfl rfl rfl hc i [] s5 _ H5 (fun _ _ => False) I5 (stat I5 n5) st5 stop
      refine thnF td fun r s6 ⟨hr, I6⟩ => ?_
      subst hr
      -- back in the def's context
      have I7 : Inv X pins σ H5 s6 := I3.call' (ch := fp) I6.os I6.base I6.hok I6.bare fun b hb => ⟨(f3 b hb).1.2.2.2.1, (f3 b hb).1.2.1, (f3 b hb).1.2.2.2.2.1, (f3 b hb).1.2.2.2.2.2⟩
      have nC : H5 s3.heap.objs.size = none := by
        have z : H5 ce.locals = none := I6.free
        rw [cL] at z
        exact z
      obtain ⟨m, hn, _⟩ := I6.loc
      have hn : s6.heap.Ns ce.locals m := hn
      rw [cL] at hn
      exact hRR D s3.heap.objs.size s6 m H5 I7 qq hn (I3.fpOk (Nat.le_refl _) nC)
    · have ti := T.item (X.blk s3 H3 scope ce fp) rfl rfl rfl hc i [] s5 _ H5 (fun _ _ => False) I5 (stat I5 n5) st5 go
      refine thnF ti fun r s6 ⟨u, hr, h6⟩ => ?_
      subst hr
      refine thnF h6 fun _ s7 ⟨x, H7, I7, r7, y7, st7, n7⟩ => ?_
      have I7' := I7.pinned (stat I7 n7) (T.obj _ _ st7)
      refine thnF (pg.run _ s7 _ H7 x u _ I7' r7 (step x H7 y7)) fun _ s8 ⟨σ8, H8, I8, hw8, q8⟩ => ?_
      refine thnF (pt.run _ s8 σ8 H8 _ I8 q8) fun b s9 ⟨H9, I9, q9⟩ => ?_
      -- the turn's end
      have fin : ∀ {s' : Shared} {H' : Hp}, Inv (X.blk s3 H3 scope ce fp) ([] ++ pinsAt fp s7.heap) σ8 H' s' → Nx H' → ∃ m, m < n ∧ ∃ i H', Inv (X.blk s3 H3 scope ce fp) [] (L2.wipe σ (own.map (·.2))) H' s' ∧ tn i s'.heap ∧ (∀ b ∈ fp, H' b = none) ∧ W i m H' := fun {s' H'} I' nx => by
        obtain ⟨m', hm, w'⟩ := hNx H' nx
        have pin' : ∀ b ∈ fp, ∀ o, s7.heap.get? b = some o → s'.heap.get? b = some o ∧ H' b = none := fun b hb o e =>
          let z := I'.pin (b, o) (List.mem_append_right _ (List.mem_append_right _ (mem_pinsAt hb e)))
          ⟨z.1, z.2.1⟩
        have hl : (L2.wipe σ (own.map (·.2))).length = σ8.length := by rw [← hw8, wipe_length]
        refine ⟨m', hm, i + 1, H', (I'.unpinned (pins := [])).weak hl (fun j v e => ?_), T.keep _ _ _ st7 fun b hb o e => (pin' b hb o e).1, fun b hb => ?_, w'⟩
        · rw [← hw8] at e
          exact (wipe_some e).1
        · obtain ⟨o, e, _⟩ := T.obj _ _ st7 b hb
          exact (pin' b hb o e).2
      cases b with
      | false =>
        simp only [Bool.false_eq_true, if_false] at q9 ⊢
        exact fin I9 q9
      | true =>
        simp only [if_true] at q9 ⊢
        refine thnF (pk.run _ s9 σ8 H9 _ I9 q9) fun z s10 ⟨yk, H10, I10, r10, q10⟩ => ?_
        refine thnF (pe.run _ s10 σ8 H10 _ I10 q10) fun z2 s11 ⟨yv, H11, I11, r11, nx⟩ => ?_
        exact thnF (hset s3 H3 scope ce fp _ s11 σ8 H11 D yk yv z z2 Nx (fun _ s12 => ∃ H12, Inv (X.blk s3 H3 scope ce fp) ([] ++ pinsAt fp s7.heap) σ8 H12 s12 ∧ Nx H12) I11 r10 r11 nx fun s12 H12 I12 n12 => ⟨H12, I12, n12⟩) fun _ s12 ⟨H12, I12, n12⟩ => fin I12 n12
  exact codeAny_compStart_dict loop (T.self X.A 0 _ _ _ st4 loop)
theorem pe_dm {kx vx tg iter : PySem.Expr} {ifs : List PySem.Expr} {scope : Scope} {own : List (Str × Nat)} {pos : Pos} {wi : TI} {g : TG} {tt : TT} {tk tv : TE} {put : V → V → Addr → Hp → (Hp → Prop) → Prop} (hc : X.calm = true) (hN : X.N.Nodup) (hi : PI X tg iter wi) (ok : BlkOk X.N X.env.scope scope own)
    (hg : ∀ (s : Shared) (H : Hp) (A : Addr) (cl : List (Str × Addr)) (fp : List Addr), PG (X.blk s H scope (compEnvC scope cl A X.env) fp) tg g)
    (ht : ∀ (s : Shared) (H : Hp) (A : Addr) (cl : List (Str × Addr)) (fp : List Addr), PTs (X.blk s H scope (compEnvC scope cl A X.env) fp) ifs tt)
    (hk : ∀ (s : Shared) (H : Hp) (A : Addr) (cl : List (Str × Addr)) (fp : List Addr), PE (X.blk s H scope (compEnvC scope cl A X.env) fp) kx tk)
    (he : ∀ (s : Shared) (H : Hp) (A : Addr) (cl : List (Str × Addr)) (fp : List Addr), PE (X.blk s H scope (compEnvC scope cl A X.env) fp) vx tv) (hs : ∀ x, foldedSetIterable iter X.env x = pure x) (hset : SetD X put) :
    PE X (.DictComp kx vx [⟨tg, iter, ifs, 0⟩] scope pos) (tDcM wi g tt tk tv (own.map (·.2)) put) := ⟨fun pins s σ H Q I h => by
  rw [arm_eval_DictComp]
  exact dm_core hc hN I hi ok hg ht hk he hs hset h fun D A s' m H' I' q hn f => ⟨m, hn, fun h'' sb =>
    let ⟨f0, f1, _, f3, f4, f5⟩ := f
    ⟨.ref D, H', I'.turned (t' := s'.toks) (fun b o hb e => (sb.2 b hb).trans e) f0 f1 f3 f4 f5, rfl, q⟩⟩⟩

/-! ### dicts that are made -/
variable {Z : Zt} {C : Ctx} {XE : XT} {σ : L2.St} {H : Hp} {R : Rn} {T : Layer} {e a b c : PySem.Expr} {ma mb mc : E} {pos p : Pos} {pins : List (Addr × Obj)} {s : Shared} {tg tg1 : PySem.Expr}
theorem roomA {A : Around} (hu : A.units + 64 < cLine) (P : Program) (w : World) : (nestedKind P w).room A := by
  show A.units + 8 < cLine
  omega
theorem dctO_nil {D : Addr} (hD : (D == sysModules) = false) : DctO Z D emptyD [] [] [] [] :=
  ⟨⟨rfl, rfl, rfl⟩, hD, .inr ⟨#[], 0, [], rfl, fun _ h => by simp at h, .nil, List.nodup_nil, rfl, .nil⟩, Nat.zero_le _⟩
/-- d[x] = y by a display or a comprehension -/
theorem dct_dset {A : Around} {E : Value → Shared → Prop} {a : Addr} {o : Obj} {x y : MV} {vx vy : V} {u uy : Value} {ks vs : List MV} {kv vv : List V} {Q : Unit → Shared → Prop} (hu : A.units + 64 < cLine) (I : Inv X pins σ H s) (hp : X.prog = Z.prog) (hw : X.w = Z.w) (hK : X.K = Z.K) (st : Sto Z R C.B T H)
    (px : Rp Z R x vx) (ru : RelV vx u) (py : Rp Z R y vy) (ry : RelV vy uy) (ho : H a = some (AtO a o)) (r1 : Rps Z R ks kv) (r2 : Rps Z R vs vv) (dd : DctO Z a o ks vs kv vv) (hk : keysOk x ks = true) (hz : ks.length < 1000000)
    (h : ∀ o' kv' vv' s', Inv X pins σ (upd H a (AtO a o')) s' → DctO Z a o' (putKs x ks) (putVs x y ks vs) kv' vv' → Rps Z R (putKs x ks) kv' → Rps Z R (putVs x y ks vs) vv' → Q () s') :
    wpAny (model X.prog X.w) A (dictSet a u uy) Q E s := by
  obtain ⟨k, hkey, hdep⟩ := keysOk_key hk
  have hpl := putKs_len x ks
  have hsz : (1000000 : Nat) ≤ sizeLine := by rw [sizeLine_eq]; decide
  rw [hp, hw]
  rcases dct_split hk r1 dd with ⟨ht, t⟩ | ⟨ht, t⟩
  · obtain ⟨xs, dk, h4, h5, h6, h7⟩ := t.at I hK st ho dd.ex r1
    have is_ := nk_is I hK st x vx u k hkey px ru
    obtain ⟨b, rfl, rfl⟩ := tup_ref ht px ru
    subst h5
    obtain ⟨vv', a1, a2, a3, a4⟩ := putT hkey px py ry xs ks vs vv dk.nodup h4 h6 r1 r2
    have hlen : xs.length = ks.length := by rw [← keysOf_len h4, List.length_map]
    refine wpAny_dictSet_heap (hsz := by omega) (roomA hu _ _) ⟨is_, hdep⟩ dk fun h' dk' hs => ?_
    obtain ⟨o', es', ep', g1, g2, g3, g4, g5, g6⟩ := dk'
    refine h o' _ vv' _ (AtO.write I ho hs g1) ⟨g2, dd.ns, .inl ⟨es', ep', _, g3, g4, g6, a1, rfl, a2, fun z hz => (g5 z hz).2⟩, by omega⟩ a3 a4
  · obtain ⟨kvs, dk, h5, h7⟩ := t.at I ho dd.ex
    obtain ⟨l, rfl, hl1⟩ := leaf_of (Z := Z) hkey ht px ru
    have nd : (kvs.map (·.1)).Nodup := let ⟨_, _, _, _, _, _, _, _, n⟩ := dk; n
    obtain ⟨vv', a1, a2, a4⟩ := putL hkey py ry kvs ks vs vv nd h5 h7 r2
    have hlen : kvs.length = ks.length := by rw [← keysOf_len h5, List.length_map]
    refine wpAny_dictSet_pairs (hsz := by omega) hl1 dk fun h' dk' hs => ?_
    obtain ⟨o', es', ep', g1, g2, g3, g4, g5, g6⟩ := dk'
    have dl : DctL Z o' (putKs x ks) vv' := ⟨es', ep', _, g3, g4, g5, g6, a1, a2⟩
    exact h o' _ vv' _ (AtO.write I ho hs g1) ⟨g2, dd.ns, .inr dl, by omega⟩ (leafV_ok a1 dl.tups) a4
end
end Mini
end
section
set_option linter.all false
set_option maxRecDepth 100000
set_option maxHeartbeats 2000000
namespace Mini
open PySem PySem.Spec PyProof.Rows L2
section
variable {X : Cx} {Z : Zt} {C : Ctx} {XE : XT} {σ : L2.St} {H : Hp} {R : Rn} {T : Layer} {e a b c : PySem.Expr} {ma mb mc : E} {pos p : Pos} {pins : List (Addr × Obj)} {s : Shared} {tg tg1 : PySem.Expr}
/-- the dict at D, made of the pairs so far -/
def MadeD (Z : Zt) (D : Addr) (R : Rn) (H : Hp) (acc : List (MV × MV)) : Prop := ∃ o ks vs kv vv, Loose R H D (AtO D o) ∧ mkD acc [] [] = some (ks, vs) ∧ Rps Z R ks kv ∧ Rps Z R vs vv ∧ DctO Z D o ks vs kv vv
theorem MadeD.ext {L : Nat} {D : Addr} {R2 : Rn} {H2 : Hp} {acc : List (MV × MV)} (m : MadeD Z D R H acc) (e : Ext L R R2 H H2) : MadeD Z D R2 H2 acc :=
  let ⟨o, ks, vs, kv, vv, h1, h2, h3, h4, h5⟩ := m
  ⟨o, ks, vs, kv, vv, h1.ext e, h2, Rps.mono e.le _ _ h3, Rps.mono e.le _ _ h4, h5⟩
theorem mkD_app : ∀ (ps qs : List (MV × MV)) (ks vs : List MV), mkD (ps ++ qs) ks vs = (mkD ps ks vs).bind fun p => mkD qs p.1 p.2
  | [], _, _, _ => rfl
  | (k, v) :: ps, qs, ks, vs => by
    simp only [List.cons_append, mkD]
    split
    · exact mkD_app ps qs _ _
    · rfl
theorem putKs_mono (x : MV) : ∀ ks : List MV, ks.length ≤ (putKs x ks).length
  | [] => Nat.zero_le _
  | k :: ks => by
    unfold putKs
    split
    · exact Nat.le_refl _
    · simp only [List.length_cons]; exact Nat.succ_le_succ (putKs_mono x ks)
theorem mkD_mono : ∀ (ps : List (MV × MV)) (ks vs ks' vs' : List MV), mkD ps ks vs = some (ks', vs') → ks.length ≤ ks'.length
  | [], _, _, _, _, h => by simp only [mkD, Option.some.injEq, Prod.mk.injEq] at h; rw [h.1]; exact Nat.le_refl _
  | (k, v) :: ps, ks, vs, ks', vs', h => by
    simp only [mkD] at h
    split at h
    · exact Nat.le_trans (putKs_mono k ks) (mkD_mono ps _ _ _ _ h)
    · cases h
def OkD (acc : List (MV × MV)) : Prop := ∃ ks vs, mkD acc [] [] = some (ks, vs) ∧ ks.length < big
def OutD (Z : Zt) (B : List Layer) (P : Rn → Hp → Prop) (D : Addr) (Fin : Hp → Prop) (acc : List (MV × MV)) (r : Res (List (MV × MV))) : Prop := match r with
  | .ok ys T => OkD (acc ++ ys) ∧ ∀ H' R', P R' H' → Sto Z R' B T H' → MadeD Z D R' H' (acc ++ ys) → Fin H'
  | _ => False
theorem OutD.bindO {α : Type} {B : List Layer} {P : Rn → Hp → Prop} {D : Addr} {Fin : Hp → Prop} {acc : List (MV × MV)} {r : Res α} {f : α → Layer → Res (List (MV × MV))} {g : List (MV × MV) → Layer → Res (List (MV × MV))}
    (h : OutD Z B P D Fin acc ((calm (r.bind f)).bind g)) : Out Z B nX σ r R H fun a T _ _ => OutD Z B P D Fin acc ((calm (f a T)).bind g) := by
  cases r with
  | ok a T => exact fun _ _ _ _ => h
  | exc c p T => exact h.elim
  | stuck => exact h.elim
abbrev andThenD (r : Res (List (MV × MV))) (rest : Layer → Res (List (MV × MV))) : Res (List (MV × MV)) := r.bind fun ys T1 => (rest T1).bind fun zs T2 => .ok (ys ++ zs) T2
theorem outD_app {B : List Layer} {P : Rn → Hp → Prop} {D : Addr} {Fin : Hp → Prop} {acc ys : List (MV × MV)} {rest : Layer → Res (List (MV × MV))} (h : OutD Z B P D Fin acc (andThenD (.ok ys T) rest)) : (∃ zs, OkD (acc ++ ys ++ zs)) ∧ OutD Z B P D Fin (acc ++ ys) (rest T) := by
  revert h
  show OutD Z B P D Fin acc ((rest T).bind fun zs T2 => .ok (ys ++ zs) T2) → _
  cases rest T with
  | ok zs T5 =>
    intro o
    obtain ⟨h1, h2⟩ := o
    rw [← List.append_assoc] at h1
    exact ⟨⟨zs, h1⟩, h1, fun H' R' a b d => h2 H' R' a b (by rw [← List.append_assoc]; exact d)⟩
  | exc c p T5 => exact fun o => o.elim
  | stuck => exact fun o => o.elim
def dcompW (Z : Zt) (C : Ctx) (P : Rn → Hp → Prop) (D : Addr) (Fin : Hp → Prop) (src : List (Nat × Nat × Cell)) (turn : MV → Layer → Res (List (MV × MV))) (items : List MV) (i m : Nat) (H : Hp) : Prop :=
  ∃ R T acc, P R H ∧ Sto Z R C.B T H ∧ MadeD Z D R H acc ∧ i ≤ items.length ∧ m = items.length - i ∧ OutD Z C.B P D Fin acc (compF C src turn (items.drop i) T)
def TurnD (Z : Zt) (C : Ctx) (P : Rn → Hp → Prop) (D : Addr) (Fin : Hp → Prop) (turn : MV → Layer → Res (List (MV × MV))) (body : V → Hp → (Hp → Prop) → Prop) : Prop :=
  ∀ (x : MV) (v : V) (R : Rn) (T : Layer) (H : Hp) (acc : List (MV × MV)) (rest : Layer → Res (List (MV × MV))) (Nx : Hp → Prop), P R H → Sto Z R C.B T H → Rp Z R x v → MadeD Z D R H acc →
      OutD Z C.B P D Fin acc (andThenD (calm (turn x T)) rest) →
      (∀ R' T' H' acc', P R' H' → Sto Z R' C.B T' H' → MadeD Z D R' H' acc' → OutD Z C.B P D Fin acc' (rest T') → Nx H') → body v H Nx
theorem dcomp_go {src : List (Nat × Nat × Cell)} {items : List MV} {J : L2.It} {turn : MV → Layer → Res (List (MV × MV))} {R0 : Rn} {H0 : Hp} {P : Rn → Hp → Prop} {D : Addr} {Fin : Hp → Prop} {acc : List (MV × MV)} {body : V → Hp → (Hp → Prop) → Prop}
    (K : Kept Z C.B D R0 H0 P) (dlv : Dlv Z C R0 H0 src items J) (e0 : P R H) (st : Sto Z R C.B T H) (hD : MadeD Z D R H acc) (q : OutD Z C.B P D Fin acc (compF C src turn items T))
    (hb : TurnD Z C P D Fin turn body) (hcalm : ∀ x T, calm (turn x T) = turn x T) :
    ∃ W : Nat → Nat → Hp → Prop, (∃ m, W 0 m H) ∧ ∀ i m H, W i m H →
      (J.stop i H ∧ Fin H) ∨ (J.go i H ∧ ∃ Nx : Hp → Prop, (∀ H', Nx H' → ∃ m', m' < m ∧ W (i + 1) m' H') ∧ ∀ x H', J.yld i H x H' → body x H' Nx) := by
  refine ⟨dcompW Z C P D Fin src turn items, ⟨_, R, T, acc, e0, st, hD, Nat.zero_le _, rfl, by rw [List.drop_zero]; exact q⟩, ?_⟩
  rintro i m H1 ⟨R1, T1, acc1, e1, s1, l1, hi, rfl, q1⟩
  by_cases h : i = items.length
  · refine .inl ?_
    rw [h, List.drop_length] at q1
    simp only [compF] at q1
    by_cases hs : still C T1 src = true
    · rw [if_pos hs] at q1
      exact ⟨(dlv i R1 H1 T1 (K.lat _ _ e1) s1 hs).1 (by omega), q1.2 H1 R1 e1 s1 (by rw [List.append_nil]; exact l1)⟩
    · rw [if_neg hs] at q1; exact q1.elim
  · refine .inr ?_
    have hlt : i < items.length := by omega
    rw [List.drop_eq_getElem_cons hlt] at q1
    simp only [compF] at q1
    by_cases hs : still C T1 src = true
    · rw [if_pos hs] at q1
      obtain ⟨hgo, hy⟩ := (dlv i R1 H1 T1 (K.lat _ _ e1) s1 hs).2 _ (List.getElem?_eq_getElem hlt)
      refine ⟨hgo, fun H' => dcompW Z C P D Fin src turn items (i + 1) (items.length - (i + 1)) H', fun H' w => ⟨_, by omega, w⟩, fun x H2 hyl => ?_⟩
      obtain ⟨R2, e2, s2, p2⟩ := hy x H2 hyl
      rw [← hcalm] at q1
      exact hb _ x R2 T1 H2 acc1 (compF C src turn (items.drop (i + 1))) _ (K.ext _ _ _ _ _ e1 s1 e2) s2 p2 (l1.ext e2) q1 fun R' T' H' acc' e' s' l' o' => ⟨R', T', acc', e', s', l', by omega, rfl, o'⟩
    · rw [if_neg hs] at q1; exact q1.elim
def putM (Z : Zt) (C : Ctx) : V → V → Addr → Hp → (Hp → Prop) → Prop := fun y z D H Nx => ∃ R T x mv ks vs o kv vv, Sto Z R C.B T H ∧ Rp Z R x y ∧ Rp Z R mv z ∧ H D = some (AtO D o) ∧ Rps Z R ks kv ∧ Rps Z R vs vv ∧ DctO Z D o ks vs kv vv ∧ keysOk x ks = true ∧ ks.length < 1000000 ∧
  ∀ o' kv' vv', DctO Z D o' (putKs x ks) (putVs x mv ks vs) kv' vv' → Rps Z R (putKs x ks) kv' → Rps Z R (putVs x mv ks vs) vv' → Nx (upd H D (AtO D o'))
theorem setD_M (hx : XOk X Z C) : SetD X (putM Z C) := by
  intro s3 H3 scope ce fp pins s σ H D y z u w Nx Q I ry rz ⟨R, T, x, mv, ks, vs, o, kv, vv, st, px, pz, ho, r1, r2, dd, hk, hz, nx⟩ q
  exact dct_dset (X := X.blk s3 H3 scope ce fp) (Room.units hx.room) I hx.prog hx.w hx.K st px ry pz rz ho r1 r2 dd hk hz fun o' kv' vv' s' I' dd' r1' r2' => q s' _ I' (nx o' kv' vv' dd' r1' r2')
/-- {k: v for t in it if cs} -/
theorem l_dcomp {kx vx iter : PySem.Expr} {ifs : List PySem.Expr} {scope : Scope} {own : List (Str × Nat)} {it : It} {t : Tg} {cs : Es} {mk mv : E} (hx : XOk X Z C) (hi : PI X tg iter (tIt Z C XE it)) (ok : BlkOk X.N X.env.scope scope own) (ho : ∀ i ∈ t.own, i ∈ own.map (·.2))
    (hg : ∀ (s : Shared) (H : Hp) (A : Addr) (cl : List (Str × Addr)) (fp : List Addr), PG (X.blk s H scope (compEnvC scope cl A X.env) fp) tg (tG Z C nX t))
    (ht : ∀ (s : Shared) (H : Hp) (A : Addr) (cl : List (Str × Addr)) (fp : List Addr), PTs (X.blk s H scope (compEnvC scope cl A X.env) fp) ifs (tQ Z C nX cs))
    (hk : ∀ (s : Shared) (H : Hp) (A : Addr) (cl : List (Str × Addr)) (fp : List Addr), PE (X.blk s H scope (compEnvC scope cl A X.env) fp) kx (tE Z C nX mk))
    (he : ∀ (s : Shared) (H : Hp) (A : Addr) (cl : List (Str × Addr)) (fp : List Addr), PE (X.blk s H scope (compEnvC scope cl A X.env) fp) vx (tE Z C nX mv))
    (hs : ∀ x, foldedSetIterable iter X.env x = pure x := by intro _; rfl) : PE X (.DictComp kx vx [⟨tg, iter, ifs, 0⟩] scope pos) (tLD Z C XE (.dcomp (own.map (·.2)) t it cs mk mv)) :=
  PEimp (pe_dm hx.calm hx.nd hi ok hg ht hk he hs (setD_M hx)) fun σ H Q ⟨R, δ, T, fr, st, q⟩ => by
    simp only [evL] at q
    refine ⟨R, δ, T, fr, st, (q.bind st).sto.imp fun d T1 R1 H1 _ ⟨e1, s1, k1⟩ J hlo dlv D hD hns => ?_⟩
    have f1 := (fr.mono e1.le).wipe (own.map (·.2))
    obtain ⟨items, src, lk⟩ := d
    -- one turn
    have turn_ok : ∀ (R0 : Rn) (P : Rn → Hp → Prop) (Fin : Hp → Prop), Le0 R1 R0 → Kept Z C.B D R0 H1 P → TurnD Z C P D Fin (fun x T => calm ((asg C t x (Mini.wipe δ (own.map (·.2))) T).bind fun δ1 T1 => (evTests C cs δ1 T1).bind fun b T2 => if b then (ev C mk δ1 T2).bind fun y T3 => (ev C mv δ1 T3).bind fun z T4 => .ok [(y, z)] T4 else .ok [] T2))
      (fun x H' Nx => tG Z C nX t x (L2.wipe σ (own.map (·.2))) H' fun σ2 H2 => L2.wipe σ2 (own.map (·.2)) = L2.wipe σ (own.map (·.2)) ∧ tQ Z C nX cs σ2 H2 fun b H3 => if b = true then tE Z C nX mk σ2 H3 fun y H4 => tE Z C nX mv σ2 H4 fun z H5 => putM Z C y z D H5 Nx else Nx H3) := by
      intro R0 P Fin le0 K x v R T H acc rest Nx e0 s0 p0 m0 o0 nx
      simp only [calm_calm] at o0
      refine ⟨R, _, T, x, (f1.mono0 le0).mono (K.lat _ _ e0).le, s0, p0, o0.bindO.sto.imp fun δ1 T2 R2 H2 _ ⟨e2, s2, o2⟩ σ2 f2 ag => ?_⟩
      have P2 := K.ext _ _ _ _ _ e0 s0 e2
      refine ⟨(ag.wipe ho).trans (wipe_wipe _ _), R2, δ1, T2, f2, s2, o2.bindO.sto.imp fun b T3 R3 H3 _ ⟨e3, s3, o3⟩ => ?_⟩
      have P3 := K.ext _ _ _ _ _ P2 s2 e3
      have m3 := (m0.ext e2).ext e3
      cases b with
      | false =>
        obtain ⟨_, o4⟩ := outD_app (ys := []) o3
        rw [List.append_nil] at o4
        exact nx R3 T3 H3 acc P3 s3 m3 o4
      | true =>
        have o3 : OutD Z C.B P D Fin acc (andThenD (calm ((ev C mk δ1 T3).bind fun y T3 => (ev C mv δ1 T3).bind fun z T4 => .ok [(y, z)] T4)) rest) := o3
        refine ⟨R3, δ1, T3, f2.mono e3.le, s3, o3.bindO.sto.imp fun y T4 R4 H4 _ ⟨e4, s4, o4⟩ vy py => ?_⟩
        have P4 := K.ext _ _ _ _ _ P3 s3 e4
        refine ⟨R4, δ1, T4, (f2.mono e3.le).mono e4.le, s4, o4.bindO.sto.imp fun z T5 R5 H5 _ ⟨e5, s5, o5⟩ vz pz => ?_⟩
        have P5 := K.ext _ _ _ _ _ P4 s4 e5
        have m5 := (m3.ext e4).ext e5
        obtain ⟨⟨zs, ks', vs', hz1, hz2⟩, o6⟩ := outD_app (ys := [(y, z)]) o5
        obtain ⟨o, ks, vs, kv, vv, h1, h2, h3, h4, h5⟩ := m5
        rw [mkD_app, mkD_app, h2] at hz1
        simp only [Option.bind_some, mkD] at hz1
        split at hz1
        · rename_i hkey
          have hle := mkD_mono zs _ _ _ _ hz1
          have hlen : ks.length < 1000000 := Nat.lt_of_le_of_lt (Nat.le_trans (putKs_mono y ks) hle) hz2
          refine ⟨R5, T5, y, z, ks, vs, o, kv, vv, s5, Rp.mono e5.le _ _ py, pz, h1.at_, h3, h4, h5, hkey, hlen, fun o' kv' vv' dd' r1' r2' => ?_⟩
          obtain ⟨l6, s6⟩ := h1.put s5 (AtO D o')
          refine nx R5 T5 _ (acc ++ [(y, z)]) (K.put _ _ _ P5 h1.c) s6 ⟨o', _, _, kv', vv', l6, ?_, r1', r2', dd'⟩ o6
          rw [mkD_app, h2]
          simp only [Option.bind_some, mkD, if_pos hkey]
        · cases hz1
    cases lk with
    | none =>
      obtain ⟨lD, sD, eD⟩ := Loose.new (L := C.B.length) s1 hD (AtO D emptyD)
      have K := kept0 s1 hD
      refine dcomp_go (acc := []) (Fin := fun H' => Q (.ref D) H') K (dlv R1 rfl) ⟨eD, (Lat.refl R1 H1).ext eD s1⟩ sD ⟨emptyD, [], [], [], [], lD, rfl, Rps.nil, Rps.nil, dctO_nil hns⟩ ?_ (turn_ok R1 _ _ (Le.refl R1).to0 K) fun x T => calm_calm _
      revert k1
      unfold lockR
      simp only
      generalize compF C src (fun x T => calm ((asg C t x (Mini.wipe δ (own.map (·.2))) T).bind fun δ1 T1 => (evTests C cs δ1 T1).bind fun b T2 => if b then (ev C mk δ1 T2).bind fun y T3 => (ev C mv δ1 T3).bind fun z T4 => .ok [(y, z)] T4 else .ok [] T2)) items T1 = r
      intro k1
      cases r with
      | ok ys T3 =>
        have k1 : OutL Z C.B XE σ (match mkD ys [] [] with
          | some (ks, vs) => if ks.length < big then .ok (.dct ks vs) T3 else .stuck
          | none => .stuck) R1 H1 Q := k1
        split at k1
        · rename_i ks vs hmk
          obtain ⟨h1, h2⟩ := OutL.sized k1
          refine ⟨⟨ks, vs, by simpa using hmk, h1⟩, fun H' R' e' s' ⟨o, ks', vs', kv, vv, g1, g2, g3, g4, g5⟩ => ?_⟩
          rw [List.nil_append, hmk] at g2
          cases g2
          exact h2 D _ H' R' g1 s' e'.1 hD ⟨o, kv, vv, rfl, g3, g4, g5⟩
        · exact k1.elim
      | exc c p T3 => exact k1.elim
      | stuck => exact k1.elim
    | some k =>
      obtain ⟨ks0, vs0, hT⟩ := hlo
      obtain ⟨ob, kv, vv, g1, g2, g3, g4, g5, g6⟩ := s1.hold hT
      have hk : k < R1.n C.B.length := by rw [s1.n, sz_top]; exact (List.getElem?_eq_some_iff.mp hT).1
      obtain ⟨lD, sD, eD⟩ := Loose.new (L := C.B.length) g6 hD (AtO D emptyD)
      have K := kept_hold (o := ob) (kept0 s1 hD) R1 H1 hk
      have le := hold_le (o := ob) g5
      have e2 : Ext C.B.length R1 ((R1.hold (R1.φ C.B.length k) ob).free (R1.φ C.B.length k)) H1 (upd H1 D (AtO D emptyD)) := ⟨le_free le g5, eD.keep, eD.new, eD.occ, eD.newF⟩
      refine dcomp_go (acc := []) (Fin := fun H' => Q (.ref D) H') K (dlv _ ⟨ob, g1, rfl⟩) ⟨⟨e2, (Lat.refl R1 H1).ext e2 s1⟩, (Lat.refl _ H1).ext eD g6⟩ sD ⟨emptyD, [], [], [], [], lD, rfl, Rps.nil, Rps.nil, dctO_nil hns⟩ ?_ (turn_ok _ _ _ le.to0 K) fun x T => calm_calm _
      revert k1
      unfold lockR
      simp only
      generalize compF C src (fun x T => calm ((asg C t x (Mini.wipe δ (own.map (·.2))) T).bind fun δ1 T1 => (evTests C cs δ1 T1).bind fun b T2 => if b then (ev C mk δ1 T2).bind fun y T3 => (ev C mv δ1 T3).bind fun z T4 => .ok [(y, z)] T4 else .ok [] T2)) items (holdC T1 k) = r
      intro k1
      cases r with
      | ok ys T3 =>
        have k1 : OutL Z C.B XE σ (match mkD ys [] [] with
          | some (ks, vs) => if ks.length < big then .ok (.dct ks vs) (freeC T3 k) else .stuck
          | none => .stuck) R1 H1 Q := k1
        split at k1
        · rename_i ks vs hmk
          obtain ⟨h1, h2⟩ := OutL.sized k1
          refine ⟨⟨ks, vs, by simpa using hmk, h1⟩, fun H' R' e' s' ⟨o, ks', vs', kv, vv, q1, q2, q3, q4, q5⟩ => ?_⟩
          rw [List.nil_append, hmk] at q2
          cases q2
          have hφ : R'.φ C.B.length k = R1.φ C.B.length k := e'.2.le.φ _ _ hk
          have s2 := s'.free (k := k) (o := ob) (Nat.lt_of_lt_of_le hk (e'.2.le.n _)) (by rw [hφ]; exact e'.2.le.lk _ _ hold_at)
          rw [hφ] at s2
          exact h2 D _ H' (R'.free (R1.φ C.B.length k)) ⟨q1.at_, q1.f, q1.c⟩ s2 e'.1.1 hD ⟨o, kv, vv, rfl, Rps.mono0 free_le0 _ _ q3, Rps.mono0 free_le0 _ _ q4, q5⟩
        · exact k1.elim
      | exc c p T3 => exact k1.elim
      | stuck => exact k1.elim
end
end Mini
end
section
set_option linter.all false
set_option maxRecDepth 100000
set_option maxHeartbeats 2000000
namespace Mini
open PySem PySem.Spec PyProof.Rows L2
section
variable {X : Cx} {Z : Zt} {C : Ctx} {XE : XT} {σ : L2.St} {H : Hp} {R : Rn} {T : Layer} {e a b c : PySem.Expr} {ma mb mc me : E} {pos p : Pos} {pins : List (Addr × Obj)} {s : Shared} {tg tg1 : PySem.Expr}
/-! ### statements -/
theorem ss_nil : PSs X [] (tSs Z C XE .nil) := PSsimp pss_nil fun D σ H ⟨R, δ, T, fr, st, q⟩ => by
  simp only [execs] at q
  exact q.ok st σ fr
theorem ss_cons {st : Stmt} {rest : List Stmt} {ms : S} {mss : Ss} (h1 : PS X st (tS Z C XE ms)) (h2 : PSs X rest (tSs Z C XE mss)) : PSs X (st :: rest) (tSs Z C XE (.cons ms mss)) :=
  PSsimp (pss_cons h1 h2) fun D σ H ⟨R, δ, T, fr, st, q⟩ => by
    simp only [execs] at q
    refine ⟨R, δ, T, fr, st, q.bind.sto.imp fun p T1 R1 H1 _ ⟨e1, s1, k1⟩ => ?_⟩
    obtain ⟨f, δ1⟩ := p
    cases f with
    | next => exact fun σ' f' => ⟨R1, δ1, T1, f', s1, k1.σ⟩
    | brk => exact fun σ' f' => k1.ok s1 σ' f'
    | cnt => exact fun σ' f' => k1.ok s1 σ' f'
    | ret v => exact fun x p => k1.ok s1 x p
theorem asg_read {t : Tg} : ∀ D σ H, tS Z C XE (.asg t me) D σ H → tE Z C (anyX XE) me σ H fun x H1 => tG Z C (anyX XE) t x σ H1 D.nx := fun D σ H ⟨R, δ, T, fr, st, q⟩ => by
  simp only [exec] at q
  exact one fr st q fun x T1 R1 H1 vx e1 f1 s1 p1 k1 => ⟨R1, δ, T1, x, f1, s1, p1, k1.bind.sto.imp fun δ1 T2 R2 H2 _ ⟨e2, s2, k2⟩ σ' f' _ => k2.ok s2 σ' f'⟩
/-- the name's own store -/
theorem name_read {i : Nat} {v : V} {Q : L2.St → Hp → Prop} : tG Z C XE (.name i) v σ H Q → gName i v σ H Q := fun ⟨R, δ, T, x, fr, st, p, q⟩ => by
  simp only [asg] at q
  exact q.ok st _ (fr.set p i) ⟨List.length_set, fun j hj => List.getElem?_set_ne fun e => hj (by subst e; exact List.mem_singleton.mpr rfl)⟩
theorem TE.imp {me : E} {Q Q' : VK} (h : tE Z C XE me σ H Q) (w : ∀ x H, Q x H → Q' x H) : tE Z C XE me σ H Q' :=
  let ⟨R, δ, T, fr, st, q⟩ := h
  ⟨R, δ, T, fr, st, q.imp fun v T R H _ k x p => w x H (k x p)⟩
theorem st_set {i : Nat} {x : Str} {pos' : Pos} (hx : XOk X Z C) (hi : X.N[i]? = some x) (hl : Loc X.env.scope x) (he : PE X e (tE Z C (anyX XE) me)) (hf : X.fn x = true ∨ X.env.scope.names.lookup x = some .local) (hs : swapsWith e (some (.Name x pos')) pos.line X.env = pure false := by rfl) :
    PS X (.Assign [.Name x pos'] e pos) (tS Z C XE (.asg (.name i) me)) :=
  PSimp (ps_set hx.nd hi hl he hs hf) fun D σ H h => TE.imp (asg_read D σ H h) fun v H1 h1 => name_read h1
theorem st_setLc {i : Nat} {y : Str} {py : Pos} {elt iter : PySem.Expr} {ifs : List PySem.Expr} {scope : Scope} {own : List (Str × Nat)} {spos : Pos} {it : It} {t : Tg} {cs : Es} {me : E} (hx : XOk X Z C) (hy : X.N[i]? = some y) (hyl : X.env.scope.names.lookup y = some .local)
    (hsw : swapsWith (.ListComp elt [⟨tg, iter, ifs, 0⟩] scope pos) (some (.Name y py)) spos.line X.env = pure true) (hi : PI X tg iter (tIt Z C (anyX XE) it)) (ok : BlkOk X.N X.env.scope scope own) (ho : ∀ i ∈ t.own, i ∈ own.map (·.2))
    (hg : ∀ (s : Shared) (H : Hp) (A : Addr) (cl : List (Str × Addr)) (fp : List Addr), PG (X.blk s H scope (compEnvC scope cl A X.env) fp) tg (tG Z C nX t))
    (ht : ∀ (s : Shared) (H : Hp) (A : Addr) (cl : List (Str × Addr)) (fp : List Addr), PTs (X.blk s H scope (compEnvC scope cl A X.env) fp) ifs (tQ Z C nX cs))
    (he : ∀ (s : Shared) (H : Hp) (A : Addr) (cl : List (Str × Addr)) (fp : List Addr), PE (X.blk s H scope (compEnvC scope cl A X.env) fp) elt (tE Z C nX me))
    (hs : ∀ x, foldedSetIterable iter X.env x = pure x := by intro _; rfl) : PS X (.Assign [.Name y py] (.ListComp elt [⟨tg, iter, ifs, 0⟩] scope pos) spos) (tS Z C XE (.asg (.name i) (.fz (.comp (own.map (·.2)) t it cs me)))) :=
  PSimp (ps_setLc hx.calm hx.nd hy hyl hsw hi ok hg ht he hs) fun D σ H h => comp_read ho _ _ _ (fz_read _ _ _ (TE.imp (asg_read D σ H h) fun v H1 h1 => name_read h1))
theorem st_asg {t : Tg} (he : PE X e (tE Z C (anyX XE) me)) (hg : PG X tg (tG Z C (anyX XE) t)) (hs : swapsWithSole [tg] e pos.line X.env = pure false := by rfl) (hw : swappedStores [tg] e X.env = pure none := by rfl) (h1 : (assignEach [tg] X.env).map (·.2) = [assign tg X.env] := by rfl) :
    PS X (.Assign [tg] e pos) (tS Z C XE (.asg t me)) := PSimp (ps_asg he hg hs hw h1) asg_read
theorem st_par {i j : Nat} {x y : Str} {px py pt : Pos} {kt k2 pt2} {mes : Es} (hx : XOk X Z C) (hi : X.N[i]? = some x) (hj : X.N[j]? = some y) (hij : i ≠ j) (hlx : X.env.scope.names.lookup x = some .local) (hly : X.env.scope.names.lookup y = some .local) (ha : PA X [a, b] (tEs Z C (anyX XE) mes))
    (hw : swappedStores [.Tuple [.Name x px, .Name y py] kt pt] (.Tuple [a, b] k2 pt2) X.env = pure (some [x, y])) (hs : swapsWithSole [.Tuple [.Name x px, .Name y py] kt pt] (.Tuple [a, b] k2 pt2) pos.line X.env = pure false := by rfl) :
    PS X (.Assign [.Tuple [.Name x px, .Name y py] kt pt] (.Tuple [a, b] k2 pt2) pos) (tS Z C XE (.par [i, j] mes)) :=
  PSimp (ps_par hx.calm hx.nd hi hj hij hlx hly ha hw hs) fun D σ H ⟨R, δ, T, fr, st, q⟩ => by
    simp only [exec] at q
    refine ⟨R, δ, T, fr, st, q.bind.sto.imp fun vs T1 R1 H1 _ ⟨e1, s1, k1⟩ xs px => ?_⟩
    obtain ⟨hz, k1⟩ := k1.sized
    match vs, hz, k1, px with
    | [u, w], _, k1, px =>
      simp only [Rps] at px
      obtain ⟨v1, r1, rfl, p1, v2, r2, rfl, p2, rfl⟩ := px
      exact ⟨v1, v2, rfl, k1.ok s1 _ (((fr.mono e1.le).set p1 i).set p2 j)⟩
theorem st_expr (he : PE X e (tE Z C (anyX XE) me)) (hs : swapsWith e none pos.line X.env = pure false := by rfl) : PS X (.Expr e pos) (tS Z C XE (.expr me)) :=
  PSimp (ps_expr he hs) fun D σ H ⟨R, δ, T, fr, st, q⟩ => by
    simp only [exec] at q
    exact one fr st q fun x T1 R1 H1 vx e1 f1 s1 p1 k1 => k1.ok s1 σ f1
theorem st_ite {A B : List Stmt} {mA mB : Ss} (hc : PT X c (tT Z C (anyX XE) mc)) (ha : PSs X A (tSs Z C XE mA)) (hb : PSs X B (tSs Z C XE mB)) : PS X (.If c A B pos) (tS Z C XE (.ite mc mA mB)) :=
  PSimp (ps_if hc ha hb) fun D σ H ⟨R, δ, T, fr, st, q⟩ => by
    simp only [exec, ← bind_ok] at q
    refine ⟨R, δ, T, fr, st, q.bind.sto.imp fun k T1 R1 H1 _ ⟨e1, s1, k1⟩ => ?_⟩
    cases k with
    | true => exact ⟨R1, δ, T1, fr.mono e1.le, s1, k1⟩
    | false => exact ⟨R1, δ, T1, fr.mono e1.le, s1, k1⟩
theorem st_ret (he : PE X e (tE Z C (anyX XE) me)) : PS X (.Return (some e) pos) (tS Z C XE (.ret me)) :=
  PSimp (ps_ret he) fun D σ H ⟨R, δ, T, fr, st, q⟩ => by
    simp only [exec] at q
    exact one fr st q fun x T1 R1 H1 vx e1 f1 s1 p1 k1 => k1.ok s1 vx p1
theorem st_del (hx : XOk X Z C) {tpos : Pos} (ha : PE X a (tE Z C (anyX XE) ma)) (hb : PE X b (tE Z C (anyX XE) mb)) : PS X (.Delete [.Subscript a b tpos] pos) (tS Z C XE (.del ma mb)) :=
  PSimp (ps_delM hx ha hb) fun D σ H ⟨R, δ, T, fr, st, q⟩ => by
    simp only [exec] at q
    refine two fr st q fun x y T2 R2 H2 vx vy e2 f2 s2 px py k2 => ?_
    obtain ⟨T3, h1, k3⟩ := k2.optB
    exact ⟨R2, T2, T3, x, y, s2, px, py, h1, fun H' e' s' => k3 _ _ e' s' σ f2⟩
theorem st_pass : PS X (.Pass pos) (tS Z C XE .pass) := PSimp ps_pass fun D σ H ⟨R, δ, T, fr, st, q⟩ => by
  simp only [exec] at q
  exact q.ok st σ fr
theorem st_brk : PS X (.Break pos) (tS Z C XE .brk) := PSimp ps_break fun D σ H ⟨R, δ, T, fr, st, q⟩ => by
  simp only [exec] at q
  exact q.ok st σ fr
theorem st_cnt : PS X (.Continue pos) (tS Z C XE .cnt) := PSimp ps_continue fun D σ H ⟨R, δ, T, fr, st, q⟩ => by
  simp only [exec] at q
  exact q.ok st σ fr
theorem st_never {st : Stmt} : PS X st (tS Z C XE .never) := PSimp ps_never fun D σ H ⟨R, δ, T, fr, st, q⟩ => by
  simp only [exec] at q
  exact q.elim
end
end Mini
end
section
set_option linter.all false
set_option maxRecDepth 100000
set_option maxHeartbeats 2000000
namespace Mini
open PySem PySem.Spec PyProof.Rows L2
section
variable {X : Cx} {Z : Zt} {C : Ctx} {XE : XT} {σ : L2.St} {H : Hp} {R : Rn} {T : Layer} {e a b c : PySem.Expr} {ma mb mc me : E} {pos p apos : Pos} {pins : List (Addr × Obj)} {s : Shared} {tg tg1 : PySem.Expr}
/-! ### built-in functions -/
theorem blt1 {f : Blt} {R : Rn} {δ : List MV} {Q : VK} {r : V → Hp → Prop} (fr : Frm Z R δ σ) (st : Sto Z R C.B T H) (q : Out Z C.B XE σ (ev C (.blt f (.cons ma .nil)) δ T) R H (kE Z Q))
    (h : ∀ x T1 R1 H1 vx v, Sto Z R1 C.B T1 H1 → Rp Z R1 x vx → bltM C T1 f [x] = some v → (∀ H' R' w, Ext C.B.length R1 R' H1 H' → Sto Z R' C.B T1 H' → Rp Z R' v w → Q w H') → r vx H1) : tE Z C XE ma σ H r := by
  have e : ev C (.blt f (.cons ma .nil)) δ T = (ev C ma δ T).bind fun x T1 => optR (bltM C T1 f [x]) T1 := by
    simp only [ev, evs, bind_ok]
    rfl
  rw [e] at q
  refine one fr st q fun x T1 R1 H1 vx e1 f1 s1 p1 k1 => ?_
  obtain ⟨v, h1, h2⟩ := k1.optE
  exact h x T1 R1 H1 vx v s1 p1 h1 fun H' R' w e' s' p' => h2 H' R' e' s' w p'
theorem blt2 {f : Blt} {R : Rn} {δ : List MV} {Q : VK} {r : V → V → Hp → Prop} (fr : Frm Z R δ σ) (st : Sto Z R C.B T H) (q : Out Z C.B XE σ (ev C (.blt f (.cons ma (.cons mb .nil))) δ T) R H (kE Z Q))
    (h : ∀ x y T1 R1 H1 vx vy v, Sto Z R1 C.B T1 H1 → Rp Z R1 x vx → Rp Z R1 y vy → bltM C T1 f [x, y] = some v → (∀ H' R' w, Ext C.B.length R1 R' H1 H' → Sto Z R' C.B T1 H' → Rp Z R' v w → Q w H') → r vx vy H1) : tE Z C XE ma σ H fun x H1 => tE Z C XE mb σ H1 fun y H2 => r x y H2 := by
  have e : ev C (.blt f (.cons ma (.cons mb .nil))) δ T = (ev C ma δ T).bind fun x T1 => (ev C mb δ T1).bind fun y T2 => optR (bltM C T2 f [x, y]) T2 := by
    simp only [ev, evs, bind_ok]
    rfl
  rw [e] at q
  refine two fr st q fun x y T1 R1 H1 vx vy e1 f1 s1 p1 p2 k1 => ?_
  obtain ⟨v, h1, h2⟩ := k1.optE
  exact h x y T1 R1 H1 vx vy v s1 p1 p2 h1 fun H' R' w e' s' p' => h2 H' R' e' s' w p'
theorem b_len (hx : XOk X Z C) (hg : Gl X "len") (hm : X.mg "len" = none) (ha : PE X a (tE Z C XE ma)) (hs : starEach [a] X.env = (false, eval a X.env) :: starEach [] X.env := by rfl) : PE X (.Call (.Name "len" p) [a] [] pos) (tE Z C XE (.blt .len (.cons ma .nil))) :=
  PEimp (pe_callB call_len hg hm boot_len (pa_cons ha pa_nil hs) (by decide) (by decide) hs) fun σ H Q ⟨R, δ, T, fr, st, q⟩ => by
    refine blt1 fr st q fun x T1 R1 H1 vx v s1 p1 h1 k => ?_
    have len_seq : ∀ xs, seqOf C T1 x = some xs → ∃ n, LenV X.K vx H1 n ∧ n = xs.length := fun xs h => by
      obtain ⟨a, vs, rfl, h2, h3⟩ := seqOf_ok s1 p1 h
      rcases h2 with h2 | h2
      · exact ⟨vs.length, .inl ⟨vs, .inl h2, rfl⟩, h3.len⟩
      · exact ⟨vs.length, .inr ⟨vs, hx.K ▸ h2, rfl⟩, h3.len⟩
    have fin : ∀ xs, seqOf C T1 x = some xs → v = .int xs.length → ∃ y n, [vx] = [y] ∧ LenV X.K y H1 n ∧ Q (.int n) H1 := fun xs h hv => by
      obtain ⟨n, h2, rfl⟩ := len_seq xs h
      subst hv
      exact ⟨vx, _, rfl, h2, k _ _ _ (Ext.refl s1) s1 rp_int⟩
    cases x with
    | str z =>
      simp only [bltM] at h1
      split at h1
      · rename_i hz
        cases h1
        simp only [Rp] at p1
        subst p1
        refine ⟨_, _, rfl, ⟨Nat.le_trans (by show z.toArray.size ≤ big; simpa using hz) big_line, rfl⟩, ?_⟩
        refine k _ _ _ (Ext.refl s1) s1 ?_
        simp only [Rp]
        show V.int ((z.toArray.size : Nat) : Int) = _
        simp
      · cases h1
    | tup xs => simp only [bltM, seqOf, Option.some.injEq] at h1; exact fin xs rfl h1.symm
    | lst xs => simp only [bltM, seqOf, Option.some.injEq] at h1; exact fin xs rfl h1.symm
    | ref l j =>
      simp only [bltM] at h1
      split at h1
      · rename_i xs hs; cases h1; exact fin xs hs rfl
      · cases h1
    | undef => simp [bltM, seqOf] at h1
    | non => simp [bltM, seqOf] at h1
    | bl _ => simp [bltM, seqOf] at h1
    | int _ => simp [bltM, seqOf] at h1
    | dct _ _ => simp [bltM, seqOf] at h1
    | ins _ _ => simp [bltM, seqOf] at h1
theorem b_min2 (hx : XOk X Z C) (hg : Gl X "min") (hm : X.mg "min" = none) (ha : PE X a (tE Z C XE ma)) (hb : PE X b (tE Z C XE mb)) (hs : starEach [a, b] X.env = (false, eval a X.env) :: starEach [b] X.env := by rfl) (hs2 : starEach [b] X.env = (false, eval b X.env) :: starEach [] X.env := by rfl) (hpl : (backTo pos (starEach [b] X.env)).any (·.1) = false := by rfl) :
    PE X (.Call (.Name "min" p) [a, b] [] pos) (tE Z C XE (.blt .min2 (.cons ma (.cons mb .nil)))) :=
  PEimp (pe_callB (call_min2 hx.calm) hg hm boot_min (pa_cons ha (pa_cons hb pa_nil hs2) hs) (by decide) (by decide) hs hpl) fun σ H Q ⟨R, δ, T, fr, st, q⟩ => by
    refine blt2 fr st q fun x y T1 R1 H1 vx vy v s1 p1 p2 h1 k => ?_
    cases x <;> cases y <;> simp only [bltM] at h1 <;> try cases h1
    simp only [Rp] at p1 p2
    subst p1; subst p2
    exact ⟨_, _, rfl, k _ _ _ (Ext.refl s1) s1 rp_int⟩
theorem b_max2 (hx : XOk X Z C) (hg : Gl X "max") (hm : X.mg "max" = none) (ha : PE X a (tE Z C XE ma)) (hb : PE X b (tE Z C XE mb)) (hs : starEach [a, b] X.env = (false, eval a X.env) :: starEach [b] X.env := by rfl) (hs2 : starEach [b] X.env = (false, eval b X.env) :: starEach [] X.env := by rfl) (hpl : (backTo pos (starEach [b] X.env)).any (·.1) = false := by rfl) :
    PE X (.Call (.Name "max" p) [a, b] [] pos) (tE Z C XE (.blt .max2 (.cons ma (.cons mb .nil)))) :=
  PEimp (pe_callB (call_max2 hx.calm) hg hm boot_max (pa_cons ha (pa_cons hb pa_nil hs2) hs) (by decide) (by decide) hs hpl) fun σ H Q ⟨R, δ, T, fr, st, q⟩ => by
    refine blt2 fr st q fun x y T1 R1 H1 vx vy v s1 p1 p2 h1 k => ?_
    cases x <;> cases y <;> simp only [bltM] at h1 <;> try cases h1
    simp only [Rp] at p1 p2
    subst p1; subst p2
    exact ⟨_, _, rfl, k _ _ _ (Ext.refl s1) s1 rp_int⟩
/-- int(x), x a number or a bool -/
theorem b_int (hx : XOk X Z C) (hg : Gl X "int") (hm : X.mg "int" = none) (ha : PE X a (tE Z C XE ma)) (hs : starEach [a] X.env = (false, eval a X.env) :: starEach [] X.env := by rfl) : PE X (.Call (.Name "int" p) [a] [] pos) (tE Z C XE (.blt .int1 (.cons ma .nil))) :=
  PEimp (pe_callTy call_int1 hg hm boot_int (pa_cons ha pa_nil hs) (by decide) (by decide) hs) fun σ H Q ⟨R, δ, T, fr, st, q⟩ => by
    refine blt1 fr st q fun x T1 R1 H1 vx v s1 p1 h1 k => ?_
    cases x <;> simp only [bltM] at h1 <;> try cases h1
    · simp only [Rp] at p1
      subst p1
      exact .inr ⟨_, rfl, k _ _ _ (Ext.refl s1) s1 rp_int⟩
    · simp only [Rp] at p1
      subst p1
      exact .inl ⟨_, rfl, k _ _ _ (Ext.refl s1) s1 rp_int⟩
theorem b_tuple (hx : XOk X Z C) (hg : Gl X "tuple") (hm : X.mg "tuple" = none) (ha : PE X a (tE Z C XE ma)) (hs : starEach [a] X.env = (false, eval a X.env) :: starEach [] X.env := by rfl) : PE X (.Call (.Name "tuple" p) [a] [] pos) (tE Z C XE (.blt .tuple1 (.cons ma .nil))) :=
  PEimp (pe_callTy call_tuple_of hg hm boot_tuple (pa_cons ha pa_nil hs) (by decide) (by decide) hs) fun σ H Q ⟨R, δ, T, fr, st, q⟩ => by
    refine blt1 fr st q fun x T1 R1 H1 vx v s1 p1 h1 k => ?_
    simp only [bltM, Option.map_eq_some_iff] at h1
    obtain ⟨xs, h2, rfl⟩ := h1
    have hcase : lstOf C T1 x = some xs ∨ x = .tup xs := by
      cases x <;> simp only [seqOf] at h2 <;> first
        | (cases h2; exact .inr rfl)
        | (exact .inl h2)
        | (cases h2)
    rcases hcase with hl | rfl
    · obtain ⟨a, vs, rfl, h3, h4⟩ := lstOf_ok s1 p1 hl
      exact ⟨a, vs, rfl, .inl ⟨.inl h3, fun l hl => new_tup s1 h4 hl k⟩⟩
    · have p1' := p1
      simp only [Rp] at p1'
      obtain ⟨a, vs, rfl, h3, h4⟩ := p1'
      exact ⟨a, vs, rfl, .inr ⟨hx.K ▸ s1.sqT h3, k _ _ _ (Ext.refl s1) s1 p1⟩⟩

/-! ### methods of lists -/
theorem tyV_lst (hK : X.K = Z.K) (st : Sto Z R C.B T H) {x : MV} {v : V} (px : Rp Z R x v) (h : (lstOf C T x).isSome = true) : tyV X.K "list" v H := by
  obtain ⟨xs, hl⟩ := Option.isSome_iff_exists.mp h
  obtain ⟨a, vs, rfl, h1, _⟩ := lstOf_ok st px hl
  exact .inl ⟨rfl, vs, .inl h1⟩
theorem m_append (hx : XOk X Z C) (ha : PE X a (tE Z C XE ma)) (hb : PE X b (tE Z C XE mb)) (hbase : attributeBase a "append" X.env (eval a X.env) = eval a X.env := by rfl)
    (hfew : ((backTo pos (starEach [b] X.env)).all (fun x => !x.1) && (backToKw pos (keywordEach [] X.env)).all (fun x => x.1.isSome) && decide ([b].length + ([] : List Keyword).length + (if ([] : List Keyword).isEmpty then 0 else 1) < 30)) = true := by rfl)
    (hline : (apos.endLine == pos.line) = true := by rfl) (hs : starEach [b] X.env = (false, eval b X.env) :: starEach [] X.env := by rfl) :
    PE X (.Call (.Attribute a "append" apos) [b] [] pos) (tE Z C XE (.bm ma .append (.cons mb .nil))) :=
  PEimp (pe_bm PySem.F.plainAttrs_list PySem.F.slot_list_append PySem.F.type_list_append mt_append ha (pa_cons hb pa_nil hs) hbase hfew hline hs) fun σ H Q ⟨R, δ, T, fr, st, q⟩ => by
    simp only [ev] at q
    refine one fr st q fun x T1 R1 H1 vx e1 f1 s1 p1 k1 => ?_
    obtain ⟨hok, k1⟩ := k1.sized
    refine ⟨tyV_lst hx.K s1 p1 hok, ?_⟩
    simp only [evs, bind_ok] at k1
    refine one f1 s1 k1 fun y T2 R2 H2 vy e2 f2 s2 p2 k2 => ?_
    have k2 : Out Z C.B XE σ (match bmM C T2 x .append [y] with
      | some (v, T3) => .ok v T3
      | none => .stuck) R2 H2 (kE Z Q) := k2
    split at k2
    · rename_i v T3 hb
      have px := Rp.mono e2.le _ _ p1
      obtain ⟨l, j, rfl⟩ : ∃ l j, x = .ref l j := by cases x <;> first | exact ⟨_, _, rfl⟩ | (simp [bmM] at hb)
      simp only [bmM] at hb
      split at hb
      · rename_i xs hc
        split at hb
        · rename_i hz
          rw [Option.map_eq_some_iff] at hb
          obtain ⟨T4, h1, h2⟩ := hb
          cases h2
          obtain ⟨rfl, hk, rfl⟩ := setC_ok h1
          simp only [Rp] at px
          obtain ⟨rfl, _⟩ := px
          obtain ⟨_, vs, g1, g2⟩ := s2.cellAt hc
          obtain ⟨e3, s3⟩ := s2.setc (j := j) (o := .lst (vs ++ [vy])) (c := .lst (xs ++ [y])) hk (fun a b z => by rw [top_cell rfl hc] at z; cases z) ⟨_, upd_same, Rps.append g2 (Rps.cons p2 Rps.nil)⟩
          exact ⟨_, vs, vy, rfl, rfl, g1, by rw [g2.len]; exact Nat.lt_of_lt_of_le hz big_line, k2 _ _ e3 s3 _ rp_non⟩
        · cases hb
      · cases hb
    · exact k2.elim
theorem m_pop0 (hx : XOk X Z C) (ha : PE X a (tE Z C XE ma)) (hbase : attributeBase a "pop" X.env (eval a X.env) = eval a X.env := by rfl) (hline : (apos.endLine == pos.line) = true := by rfl) :
    PE X (.Call (.Attribute a "pop" apos) [] [] pos) (tE Z C XE (.bm ma .pop0 .nil)) :=
  PEimp (pe_bm0 PySem.F.plainAttrs_list PySem.F.slot_list_pop PySem.F.type_list_pop mt_pop ha hbase hline) fun σ H Q ⟨R, δ, T, fr, st, q⟩ => by
    simp only [ev] at q
    refine one fr st q fun x T2 R2 H2 vx e1 f1 s2 px k1 => ?_
    obtain ⟨hok, k2⟩ := k1.sized
    refine ⟨tyV_lst hx.K s2 px hok, ?_⟩
    have k2 : Out Z C.B XE σ (match bmM C T2 x .pop0 [] with
      | some (v, T3) => .ok v T3
      | none => .stuck) R2 H2 (kE Z Q) := k2
    split at k2
    · rename_i v T3 hb
      obtain ⟨l, j, rfl⟩ : ∃ l j, x = .ref l j := by cases x <;> first | exact ⟨_, _, rfl⟩ | (simp [bmM] at hb)
      simp only [bmM] at hb
      split at hb
      · rename_i xs hc
        split at hb
        · rename_i y hy
          rw [Option.map_eq_some_iff] at hb
          obtain ⟨T4, h1, h2⟩ := hb
          cases h2
          obtain ⟨rfl, hk, rfl⟩ := setC_ok h1
          simp only [Rp] at px
          obtain ⟨rfl, _⟩ := px
          obtain ⟨_, vs, g1, g2⟩ := s2.cellAt hc
          have hd : vs.dropLast = vs.take (xs.length - 1) := by rw [List.dropLast_eq_take, g2.len]
          obtain ⟨e3, s3⟩ := s2.setc (j := j) (o := .lst vs.dropLast) (c := .lst xs.dropLast) hk (fun a b z => by rw [top_cell rfl hc] at z; cases z) ⟨_, upd_same, by rw [hd, List.dropLast_eq_take]; exact Rps.take _ g2⟩
          rw [List.getLast?_eq_getElem?] at hy
          obtain ⟨w, h3, h4⟩ := g2.get hy
          exact ⟨_, vs, w, rfl, rfl, g1, by rw [g2.len]; exact h3, k2 _ _ e3 s3 _ h4⟩
        · cases hb
      · cases hb
    · exact k2.elim
end
end Mini
end
section
set_option linter.all false
set_option maxRecDepth 100000
set_option maxHeartbeats 2000000
namespace Mini
open PySem PySem.Spec PyProof.Rows L2

/-! ### a call's layer is frozen -/
open Classical in
/-- behind a call: what its layer ℓ held is frozen -/
noncomputable def Rn.leave (R' : Rn) (ex : Option Nat) (R : Rn) (H' : Hp) (ℓ : Nat) : Rn :=
  ⟨fun a => if ∃ k, k < R'.n ℓ ∧ ex ≠ some k ∧ R'.φ ℓ k = a then H' a else R'.F a, R'.φ, R.n, R.lk⟩
section
variable {Z : Zt} {B : List Layer} {T0 T1 : Layer} {R R' : Rn} {H H' : Hp}
theorem sz_in {l : Nat} : sz (B ++ [T0]) [] l = sz B T0 l := by
  unfold sz
  rw [List.length_append, List.length_singleton]
  by_cases h : l = B.length + 1
  · rw [if_pos h, if_neg (by omega), List.getElem?_eq_none (by omega)]; rfl
  · rw [if_neg h]
    by_cases h2 : l = B.length
    · subst h2; rw [if_pos rfl, List.getElem?_append_right (Nat.le_refl _)]; simp
    · rw [if_neg h2]
      by_cases h3 : l < B.length
      · rw [List.getElem?_append_left h3]
      · rw [List.getElem?_eq_none (by rw [List.length_append, List.length_singleton]; omega), List.getElem?_eq_none (by omega)]
theorem getB_in {l k : Nat} (h : l ≠ B.length + 1) : getB (B ++ [T0]) T1 l k = getB B T0 l k := by
  unfold getB
  rw [List.length_append, List.length_singleton, if_neg h]
  by_cases h2 : l = B.length
  · subst h2; rw [if_pos rfl, List.getElem?_append_right (Nat.le_refl _)]; simp
  · rw [if_neg h2]
    by_cases h3 : l < B.length
    · rw [List.getElem?_append_left h3]
    · rw [List.getElem?_eq_none (by rw [List.length_append, List.length_singleton]; omega), List.getElem?_eq_none (by omega)]
theorem getB_in0 {l k : Nat} : getB (B ++ [T0]) [] l k = getB B T0 l k := by
  by_cases h : l = B.length + 1
  · subst h
    unfold getB
    rw [List.length_append, List.length_singleton, if_pos rfl, if_neg (by omega), List.getElem?_eq_none (l := B) (by omega)]
    simp
  · exact getB_in h
/-- at a call's beginning -/
theorem Sto.enter (s : Sto Z R B T0 H) : Sto Z R (B ++ [T0]) [] H := by
  refine ⟨s.sub, ?_, fun l k c h => s.cell l k c (by rw [← getB_in0]; exact h), s.inj, fun a o h => ?_⟩
  · rw [s.n]; funext l; rw [sz_in]
  · obtain ⟨l, k, ks, vs, h1, h2⟩ := s.lkC a o h
    exact ⟨l, k, ks, vs, h1, by rw [getB_in0]; exact h2⟩
theorem top_none (s : Sto Z R B T0 H) : R.n (B.length + 1) = 0 := by
  rw [s.n]
  unfold sz
  rw [if_neg (by omega), List.getElem?_eq_none (by omega)]
/-- at its end -/
theorem Sto.leave (ex : Option Nat) (s : Sto Z R B T0 H) (s' : Sto Z R' (B ++ [T0]) T1 H') (e : Ext (B.length + 1) R R' H H') :
    Sto Z (R'.leave ex R H' (B.length + 1)) B T0 H' ∧ Ext B.length R (R'.leave ex R H' (B.length + 1)) H H' := by
  have h0 := top_none s
  have hlow : ∀ l, l ≠ B.length + 1 → R'.n l = R.n l := fun l hl => by
    rw [s.n, s'.n]
    unfold sz
    rw [List.length_append, List.length_singleton, if_neg hl]
    by_cases h2 : l = B.length
    · subst h2; rw [if_pos rfl, List.getElem?_append_right (Nat.le_refl _)]; simp
    · rw [if_neg h2]
      by_cases h3 : l < B.length
      · rw [List.getElem?_append_left h3]
      · rw [List.getElem?_eq_none (by rw [List.length_append, List.length_singleton]; omega), List.getElem?_eq_none (by omega)]
  have hk : ∀ a o, H a = some o → H' a = some o := fun a o h => e.keep a o h fun k hk => by rw [h0] at hk; omega
  have notTop : ∀ l k, l ≠ B.length + 1 → k < R'.n l → ¬ ∃ j, j < R'.n (B.length + 1) ∧ ex ≠ some j ∧ R'.φ (B.length + 1) j = R'.φ l k := fun l k hl hkl ⟨j, hj, _, ej⟩ => hl (s'.inj _ _ _ _ hj hkl ej).1.symm
  have fTop : ∀ j, j < R'.n (B.length + 1) → R'.F (R'.φ (B.length + 1) j) = none := fun j hj => by
    rw [s'.n] at hj
    obtain ⟨c, hc⟩ := getB_some hj
    exact (s'.cell _ _ _ hc).1
  have le : Le R (R'.leave ex R H' (B.length + 1)) := by
    refine ⟨fun a o h => ?_, fun _ => Nat.le_refl _, fun l k h => e.le.φ l k h, fun _ _ h => h⟩
    show (if ∃ k, k < R'.n (B.length + 1) ∧ ex ≠ some k ∧ R'.φ (B.length + 1) k = a then H' a else R'.F a) = some o
    have h1 := e.le.F a o h
    rw [if_neg]
    · exact h1
    · rintro ⟨j, hj, _, rfl⟩
      rw [fTop j hj] at h1; cases h1
  have sub : ∀ a o, (R'.leave ex R H' (B.length + 1)).F a = some o → H' a = some o := fun a o h => by
    have h : (if ∃ k, k < R'.n (B.length + 1) ∧ ex ≠ some k ∧ R'.φ (B.length + 1) k = a then H' a else R'.F a) = some o := h
    split at h
    · exact h
    · exact s'.sub a o h
  have sto : Sto Z (R'.leave ex R H' (B.length + 1)) B T0 H' := by
    refine ⟨sub, s.n, fun l k c h => ?_, fun l k l' k' h1 h2 h3 => ?_, fun a o h => ?_⟩
    · have hkR : k < R.n l := by rw [s.n]; exact getB_lt h
      have hl : l ≠ B.length + 1 := fun z => by subst z; rw [h0] at hkR; omega
      have hkR' : k < R'.n l := by rw [hlow l hl]; exact hkR
      have hφ : R'.φ l k = R.φ l k := e.le.φ l k hkR
      obtain ⟨h1, h2⟩ := s.cell l k c h
      obtain ⟨u, hu⟩ := h2.some
      have hH : H' (R'.φ l k) = H (R.φ l k) := by rw [hφ, hu]; exact hk _ _ hu
      refine ⟨?_, ?_⟩
      · show (if ∃ j, j < R'.n (B.length + 1) ∧ ex ≠ some j ∧ R'.φ (B.length + 1) j = R'.φ l k then H' (R'.φ l k) else R'.F (R'.φ l k)) = none
        rw [if_neg (notTop l k hl hkR')]
        exact (s'.cell l k c (by rw [getB_in hl]; exact h)).1
      · show CellOk Z _ H' (R'.φ l k) c
        rw [hφ]
        exact CellOk.mono le (by rw [← hφ]; rw [hH, hφ]) h2
    · exact s.inj l k l' k' h1 h2 ((e.le.φ l k h1).symm.trans (h3.trans (e.le.φ l' k' h2)))
    · obtain ⟨l, k, ks, vs, h1, h2⟩ := s.lkC a o h
      exact ⟨l, k, ks, vs, (e.le.φ l k (by rw [s.n]; exact getB_lt h2)).trans h1, h2⟩
  refine ⟨sto, le, fun a o h _ => hk a o h, fun l k h1 h2 => absurd h2 (Nat.not_lt.mpr h1), fun l k h => sto.occ h, fun a o h1 h2 => ?_⟩
  have h1 : (if ∃ k, k < R'.n (B.length + 1) ∧ ex ≠ some k ∧ R'.φ (B.length + 1) k = a then H' a else R'.F a) = some o := h1
  split at h1
  · rename_i hj
    obtain ⟨j, hj, _, rfl⟩ := hj
    exact e.new _ _ (by rw [h0]; exact Nat.zero_le _) hj
  · exact e.newF a o h1 h2
end
end Mini
end
section
set_option linter.all false
set_option maxRecDepth 100000
set_option maxHeartbeats 2000000
namespace Mini
open PySem PySem.Spec PyProof.Rows L2

theorem mapM_cons' {f : MV → Option MV} {x : MV} {xs ys : List MV} (h : (x :: xs).mapM f = some ys) : ∃ y r, ys = y :: r ∧ f x = some y ∧ xs.mapM f = some r := by
  rw [List.mapM_cons] at h
  cases h1 : f x with
  | none => rw [h1] at h; cases h
  | some y =>
    rw [h1] at h
    cases h2 : xs.mapM f with
    | none => rw [h2] at h; cases h
    | some r =>
      rw [h2] at h
      cases h
      exact ⟨y, r, rfl, rfl, rfl⟩
theorem mapM_nil' {f : MV → Option MV} {ys : List MV} (h : ([] : List MV).mapM f = some ys) : ys = [] := by
  rw [List.mapM_nil] at h; cases h; rfl
theorem frz_keys {f : MV → Option MV} (hf : ∀ x k x', keyOf x = some k → f x = some x' → x' = x) : ∀ (xs ys : List MV) (ks : List NestedKey), keysOf xs = some ks → xs.mapM f = some ys → ys = xs
  | [], ys, _, _, h => mapM_nil' h
  | x :: xs, ys, ks, hk, h => by
    obtain ⟨k, r, rfl, h1, h2⟩ := keysOf_cons hk
    obtain ⟨y, t, rfl, h3, h4⟩ := mapM_cons' h
    rw [hf x k y h1 h3, frz_keys hf xs t r h2 h4]
theorem frz_key (ex : Option Nat) (ℓ : Nat) (T : Layer) : ∀ (n : Nat) (x : MV) (k : NestedKey) (x' : MV), keyOf x = some k → freezeF ex ℓ T n x = some x' → x' = x
  | 0, x, k, x', _, h => by cases x <;> simp [freezeF] at h
  | n + 1, x, k, x', hk, h => by
    cases x <;> simp only [keyOf] at hk <;> try cases hk
    · simp only [freezeF, Option.some.injEq] at h; exact h.symm
    · simp only [freezeF, Option.some.injEq] at h; exact h.symm
    · simp only [freezeF, Option.some.injEq] at h; exact h.symm
    · simp only [freezeF, Option.some.injEq] at h; exact h.symm
    · rename_i xs
      simp only [freezeF, Option.map_eq_some_iff] at h
      obtain ⟨ys, h1, rfl⟩ := h
      rw [Option.map_eq_some_iff] at hk
      obtain ⟨ks, h2, _⟩ := hk
      rw [frz_keys (frz_key ex ℓ T n) xs ys ks h2 h1]
theorem frz_undef {ex : Option Nat} {ℓ : Nat} {T : Layer} {n : Nat} {x x' : MV} (h : freezeF ex ℓ T n x = some x') : x' = .undef ↔ x = .undef := by
  cases n with
  | zero => cases x <;> simp [freezeF] at h
  | succ n =>
    cases x with
    | ref l k =>
      simp only [freezeF] at h
      split at h
      · by_cases hex : ex = some k
        · rw [if_pos hex] at h; cases h
        rw [if_neg hex] at h
        split at h
        · rw [Option.map_eq_some_iff] at h; obtain ⟨_, _, rfl⟩ := h; simp
        · split at h
          · cases h; simp
          · cases h
        · rw [Option.map_eq_some_iff] at h; obtain ⟨_, _, rfl⟩ := h; simp
        · cases h
      · split at h
        · cases h; simp
        · cases h
    | tup xs => simp only [freezeF, Option.map_eq_some_iff] at h; obtain ⟨_, _, rfl⟩ := h; simp
    | lst xs => simp only [freezeF, Option.map_eq_some_iff] at h; obtain ⟨_, _, rfl⟩ := h; simp
    | ins c xs => simp only [freezeF, Option.map_eq_some_iff] at h; obtain ⟨_, _, rfl⟩ := h; simp
    | dct ks vs =>
      simp only [freezeF] at h
      split at h
      · cases h; simp
      · cases h
    | _ => simp only [freezeF, Option.some.injEq] at h; subst h; simp
theorem frz_cnt {ex : Option Nat} {ℓ : Nat} {T : Layer} {n : Nat} : ∀ {xs ys : List MV}, xs.mapM (freezeF ex ℓ T n) = some ys → ys.length = xs.length ∧ cnt ys = cnt xs ∧ ∀ (j : Nat) (y : MV), ys[j]? = some y → ∃ x, xs[j]? = some x ∧ (y = .undef ↔ x = .undef)
  | [], ys, h => by rw [mapM_nil' h]; exact ⟨rfl, rfl, fun j y hj => by simp at hj⟩
  | x :: xs, ys, h => by
    obtain ⟨y, t, rfl, h3, h4⟩ := mapM_cons' h
    obtain ⟨i1, i2, i3⟩ := frz_cnt h4
    have hu := frz_undef h3
    refine ⟨by simp [i1], ?_, fun j z hj => ?_⟩
    · by_cases e : x = .undef
      · have e2 := hu.mpr e
        subst e; subst e2
        simp only [cnt, i2]
      · have e2 : y ≠ .undef := fun z => e (hu.mp z)
        cases x <;> first | exact absurd rfl e | (cases y <;> first | exact absurd rfl e2 | simp only [cnt, i2])
    · cases j with
      | zero => simp at hj; subst hj; exact ⟨x, rfl, hu⟩
      | succ j => exact i3 j z (by simpa using hj)
section
variable {Z : Zt} {B : List Layer} {T0 T1 : Layer} {R R' : Rn} {H H' : Hp}
theorem frz_fld {ex : Option Nat} {ℓ : Nat} {T : Layer} {n c : Nat} {fs fs' : List MV} {ws : List V} {gs : List (Str × V)} (h : fs.mapM (freezeF ex ℓ T n) = some fs') (f : FldR Z c fs ws gs) : FldR Z c fs' ws gs := by
  obtain ⟨i1, i2, i3⟩ := frz_cnt h
  obtain ⟨⟨cd, h1, h2, h3, h4⟩, h5⟩ := f
  refine ⟨⟨cd, h1, by rw [i1]; exact h2, fun j f x v e1 e2 e3 => ?_, h4⟩, by rw [i2]; exact h5⟩
  obtain ⟨y, e4, e5⟩ := i3 j x e2
  have := h3 j f y v e1 e4 e3
  by_cases e : x = .undef
  · subst e; trivial
  · have e6 : y ≠ .undef := fun z => e (e5.mpr z)
    have q : gs.lookup (Z.G.nm f) = some v := by cases y <;> first | exact absurd rfl e6 | exact this
    cases x <;> first | trivial | exact q
theorem frz_dct {ex : Option Nat} {ℓ : Nat} {T : Layer} {n : Nat} {a : Addr} {o : Obj} {ks vs ks' vs' : List MV} {kv vv : List V} (h : ks.mapM (freezeF ex ℓ T n) = some ks') (d : DctO Z a o ks vs kv vv) : ks' = ks ∧ DctO Z a o ks vs' kv vv := by
  refine ⟨?_, ⟨d.ex, d.ns, d.ents, d.sz⟩⟩
  rcases d.ents with t | t
  · obtain ⟨_, _, _, _, _, _, h4, _⟩ := t
    exact frz_keys (frz_key ex ℓ T n) ks ks' _ h4 h
  · obtain ⟨_, _, _, _, _, _, _, h4, _⟩ := t
    exact frz_keys (frz_key ex ℓ T n) ks ks' _ h4 h
theorem frz_all {f : MV → Option MV} {R1 R2 : Rn} (hf : ∀ v x v', f v = some v' → Rp Z R1 v x → Rp Z R2 v' x) : ∀ (xs ys : List MV) (vs : List V), xs.mapM f = some ys → Rps Z R1 xs vs → Rps Z R2 ys vs
  | [], ys, vs, h, r => by rw [mapM_nil' h]; simp only [Rps] at r; subst r; exact Rps.nil
  | x :: xs, ys, vs, h, r => by
    obtain ⟨y, t, rfl, h3, h4⟩ := mapM_cons' h
    simp only [Rps] at r
    obtain ⟨v, w, rfl, p, q⟩ := r
    exact Rps.cons (hf x v y h3 p) (frz_all hf xs t w h4 q)
theorem freeze_ok (ex : Option Nat) (s : Sto Z R B T0 H) (s' : Sto Z R' (B ++ [T0]) T1 H') (e : Ext (B.length + 1) R R' H H') :
    ∀ (n : Nat) (v : MV) (x : V) (v' : MV), freezeF ex (B.length + 1) T1 n v = some v' → Rp Z R' v x → Rp Z (R'.leave ex R H' (B.length + 1)) v' x := by
  have hLen : (B ++ [T0]).length = B.length + 1 := by rw [List.length_append, List.length_singleton]
  have top : ∀ j c, ex ≠ some j → T1[j]? = some c → (R'.leave ex R H' (B.length + 1)).F (R'.φ (B.length + 1) j) = H' (R'.φ (B.length + 1) j) := fun j c hex h => by
    show (if ∃ k, k < R'.n (B.length + 1) ∧ ex ≠ some k ∧ R'.φ (B.length + 1) k = R'.φ (B.length + 1) j then H' (R'.φ (B.length + 1) j) else R'.F (R'.φ (B.length + 1) j)) = _
    rw [if_pos ⟨j, by rw [s'.n, ← hLen, sz_top]; exact (List.getElem?_eq_some_iff.mp h).1, hex, rfl⟩]
  have cellTop : ∀ j c, T1[j]? = some c → CellOk Z R' H' (R'.φ (B.length + 1) j) c := fun j c h => by
    have := s'.cell (B.length + 1) j c (by rw [← hLen]; exact top_at h)
    exact this.2
  have fSub : ∀ a o, R'.F a = some o → (R'.leave ex R H' (B.length + 1)).F a = some o := fun a o h => by
    show (if ∃ k, k < R'.n (B.length + 1) ∧ ex ≠ some k ∧ R'.φ (B.length + 1) k = a then H' a else R'.F a) = some o
    split
    · exact s'.sub a o h
    · exact h
  have sq : ∀ a xs, SqT Z.K R'.F a xs → SqT Z.K (R'.leave ex R H' (B.length + 1)).F a xs := fun a xs h => Evl.ex_t (H := R'.F) (H' := (R'.leave ex R H' (B.length + 1)).F) fSub h
  have rd : ∀ a u, Rd R'.F a u → Rd (R'.leave ex R H' (B.length + 1)).F a u := fun a u h => Evl.ex_rd (H := R'.F) (H' := (R'.leave ex R H' (B.length + 1)).F) fSub h
  intro n
  induction n with
  | zero => intro v x v' h _; cases v <;> simp [freezeF] at h
  | succ n ih =>
    intro v x v' h p
    cases v with
    | ref l k =>
      simp only [Rp] at p
      obtain ⟨rfl, hk⟩ := p
      simp only [freezeF] at h
      split at h
      · rename_i hl
        subst hl
        by_cases hex : ex = some k
        · rw [if_pos hex] at h; cases h
        rw [if_neg hex] at h
        split at h
        · rename_i xs hT
          rw [Option.map_eq_some_iff] at h
          obtain ⟨ys, h1, rfl⟩ := h
          obtain ⟨vs, h2, h3⟩ := cellTop k _ hT
          exact rp_lst (.inl ((top k _ hex hT).trans h2)) (frz_all ih xs ys vs h1 h3)
        · rename_i ks vs hT
          split at h
          · rename_i ks' vs' hk1 hv1
            cases h
            obtain ⟨o, kv, vv, h2, h3, h4, h5⟩ := cellTop k _ hT
            obtain ⟨rfl, h6⟩ := frz_dct (vs' := vs') hk1 h5
            simp only [Rp]
            exact ⟨_, o, kv, vv, rfl, (top k _ hex hT).trans h2, frz_all ih _ _ _ hk1 h3, frz_all ih _ _ _ hv1 h4, h6⟩
          · cases h
        · rename_i c fs hT
          rw [Option.map_eq_some_iff] at h
          obtain ⟨ys, h1, rfl⟩ := h
          obtain ⟨dx, gs, ws, h2, h3, h4⟩ := cellTop k _ hT
          simp only [Rp]
          exact ⟨_, dx, gs, ws, rfl, (top k _ hex hT).trans h2, frz_all ih _ _ _ h1 h3, frz_fld h1 h4⟩
        · cases h
      · rename_i hl
        split at h
        · cases h
          simp only [Rp]
          refine ⟨rfl, ?_⟩
          show k < R.n l
          rw [s.n]
          rw [s'.n] at hk
          obtain ⟨c, hc⟩ := getB_some hk
          rw [getB_in hl] at hc
          exact getB_lt hc
        · cases h
    | tup xs =>
      simp only [Rp] at p
      obtain ⟨a, vs, rfl, h1, h2⟩ := p
      simp only [freezeF, Option.map_eq_some_iff] at h
      obtain ⟨ys, h3, rfl⟩ := h
      exact rp_tup (sq a vs h1) (frz_all ih xs ys vs h3 h2)
    | lst xs =>
      simp only [Rp] at p
      obtain ⟨a, vs, rfl, h1, h2⟩ := p
      simp only [freezeF, Option.map_eq_some_iff] at h
      obtain ⟨ys, h3, rfl⟩ := h
      exact rp_lst (rd a _ h1) (frz_all ih xs ys vs h3 h2)
    | dct ks vs =>
      simp only [Rp] at p
      obtain ⟨a, o, kv, vv, rfl, h1, h2, h3, h4⟩ := p
      simp only [freezeF] at h
      split at h
      · rename_i ks' vs' hk1 hv1
        cases h
        obtain ⟨rfl, h6⟩ := frz_dct (vs' := vs') hk1 h4
        simp only [Rp]
        exact ⟨a, o, kv, vv, rfl, fSub _ _ h1, frz_all ih _ _ _ hk1 h2, frz_all ih _ _ _ hv1 h3, h6⟩
      · cases h
    | ins c fs =>
      simp only [Rp] at p
      obtain ⟨a, dx, gs, ws, rfl, h1, h2, h3⟩ := p
      simp only [freezeF, Option.map_eq_some_iff] at h
      obtain ⟨ys, h4, rfl⟩ := h
      simp only [Rp]
      exact ⟨a, dx, gs, ws, rfl, fSub _ _ h1, frz_all ih _ _ _ h4 h2, frz_fld h4 h3⟩
    | undef => simp only [freezeF, Option.some.injEq] at h; subst h; simp only [Rp]
    | non => simp only [freezeF, Option.some.injEq] at h; subst h; simp only [Rp] at p ⊢; exact p
    | bl _ => simp only [freezeF, Option.some.injEq] at h; subst h; simp only [Rp] at p ⊢; exact p
    | int _ => simp only [freezeF, Option.some.injEq] at h; subst h; simp only [Rp] at p ⊢; exact p
    | str _ => simp only [freezeF, Option.some.injEq] at h; subst h; simp only [Rp] at p ⊢; exact p
end
end Mini
end
section
set_option linter.all false
set_option maxRecDepth 100000
set_option maxHeartbeats 2000000
namespace Mini
open PySem PySem.Spec PyProof.Rows L2

/-! ### what a def's body promises -/
def spB (Z : Zt) (W d f n : Nat) : Sp := fun vs H Q _ => ∃ R B T args, Sto Z R B T H ∧ Rps Z R args vs ∧ args.length = n ∧ Out Z B nX [] (bodyRun Z.P W (callN Z.P W d) f args B T) R H (kE Z Q)
theorem spB_len {Z : Zt} {W d f n : Nat} {ps : List Str} (h : ps.length = n) (vs : List V) (H : Hp) (Q : VK) (E : XK) (s : spB Z W d f n vs H Q E) : vs.length = ps.length := by
  obtain ⟨R, B, T, args, _, r, hl, _⟩ := s
  rw [r.len, hl, h]
theorem frm_start {Z : Zt} {R : Rn} {args : List MV} {vs : List V} {N : List Str} {n : Nat} (r : Rps Z R args vs) (hn : n = N.length) (hl : args.length ≤ n) : Frm Z R (startF n args) (L2.start N vs) := by
  subst hn
  unfold startF L2.start
  have hv := r.len
  refine ⟨by simp only [List.length_append, List.length_replicate, List.length_map]; omega, fun i x hx => ?_⟩
  by_cases hi : i < args.length
  · rw [List.getElem?_append_left hi] at hx
    obtain ⟨v, h1, h2⟩ := r.get hx
    have : (vs.map some ++ List.replicate (N.length - vs.length) none)[i]? = some (some v) := by
      rw [List.getElem?_append_left (by rw [List.length_map]; omega), List.getElem?_map, h1]; rfl
    rw [this]
    cases x <;> first | trivial | exact ⟨v, rfl, h2⟩
  · rw [List.getElem?_append_right (by omega), List.getElem?_replicate] at hx
    split at hx
    · cases hx; trivial
    · cases hx
theorem Out.x0 {Z : Zt} {B : List Layer} {XE : XT} {σ σ' : L2.St} {R : Rn} {H : Hp} {α : Type} {r : Res α} {K : α → Layer → Rn → Hp → Prop} (h : Out Z B nX σ r R H K) : Out Z B XE σ' r R H K := by
  cases r with
  | ok a T => exact h
  | exc c p T => exact fun H' R' e s => (h H' R' e s).elim
  | stuck => exact h
theorem Out.to0 {Z : Zt} {B : List Layer} {XE : XT} {σ σ' : L2.St} {R : Rn} {H : Hp} {α : Type} {r : Res α} {K : α → Layer → Rn → Hp → Prop} (hX : ∀ σ c p T R H, XE σ c p T R H → False) (h : Out Z B XE σ r R H K) : Out Z B nX σ' r R H K := by
  cases r with
  | ok a T => exact h
  | exc c p T => exact fun H' R' e s => hX _ _ _ _ _ _ (h H' R' e s)
  | stuck => exact h
/-- the body's walk gives the promise -/
theorem body_run {X : Cx} {Z : Zt} {W d f n : Nat} {N : List Str} {body : List Stmt} {fd : Fn} {vs : List V} {H : Hp} {Q : VK} {E : XK} (hf : Z.P.fns[f]? = some fd) (hs : fd.slots = N.length) (hn : n ≤ N.length)
    (hb : ∀ B, PSs X body (tSs Z ⟨Z.P, B, W, callN Z.P W d⟩ nX fd.body)) (h : spB Z W d f n vs H Q E) : ∃ t, PSs X body t ∧ t { nx := fun _ H' => Q .non H', rt := Q } (L2.start N vs) H := by
  obtain ⟨R, B, T, args, st, r, hl, q⟩ := h
  refine ⟨_, hb B, R, startF fd.slots args, T, frm_start r hs (by omega), st, ?_⟩
  unfold bodyRun at q
  rw [hf] at q
  simp only at q
  have q : Out Z B nX (L2.start N vs) ((execs ⟨Z.P, B, W, callN Z.P W d⟩ fd.body (startF fd.slots args) T).bind fun p T1 => optR (retOf p.1) T1) R H (kE Z Q) := q.x0
  refine Out.x0 (σ := L2.start N vs) (q.bind.sto.imp fun p T1 R1 H1 _ ⟨e1, s1, k1⟩ => ?_)
  obtain ⟨fl, δ1⟩ := p
  obtain ⟨v, h1, h2⟩ := k1.optE
  cases fl with
  | next => cases h1; exact fun σ' _ => h2.ok s1 _ rp_non
  | ret w => cases h1; exact fun x p => h2.ok s1 x p
  | brk => cases h1
  | cnt => cases h1

/-! ### calls, to the promise of the body -/
section
variable {Z : Zt} {B : List Layer} {T : Layer} {XE : XT} {σ : L2.St} {R : Rn} {H : Hp} {Q : VK} {W d f n : Nat} {args : List MV} {fd : Fn} {vs : List V} {E : XK}
theorem call_imp {kp : Bool} (hX : ∀ σ c p T R H, XE σ c p T R H → False) (hf : Z.P.fns[f]? = some fd) (hk : fd.kind = .imp) (st : Sto Z R B T H) (r : Rps Z R args vs) (hl : args.length = n) (q : Out Z B XE σ (callN Z.P W (d + 1) kp f args B T) R H (kE Z Q)) : spB Z W d f n vs H Q E := by
  unfold callN at q
  rw [hf] at q
  simp only [hk] at q
  exact ⟨R, B, T, args, st, r, hl, q.to0 hX⟩
theorem call_pure (hX : ∀ σ c p T R H, XE σ c p T R H → False) (hf : Z.P.fns[f]? = some fd) (hk : fd.kind = .pure) (st : Sto Z R B T H) (r : Rps Z R args vs) (hl : args.length = n) (q : Out Z B XE σ (callN Z.P W (d + 1) false f args B T) R H (kE Z Q)) : spB Z W d f n vs H Q E := by
  unfold callN at q
  rw [hf] at q
  simp only [hk] at q
  refine ⟨R, B ++ [T], [], args, st.enter, r, hl, ?_⟩
  have hLen : (B ++ [T]).length = B.length + 1 := by rw [List.length_append, List.length_singleton]
  revert q
  cases bodyRun Z.P W (callN Z.P W d) f args (B ++ [T]) [] with
  | stuck => exact fun q => q.elim
  | exc c p T1 =>
    intro q H' R' e s'
    rw [hLen] at e
    obtain ⟨s2, e2⟩ := st.leave none s' e
    have q : Out Z B XE σ (match p.mapM (freeze (B.length + 1) T1) with
      | some p' => .exc c p' T
      | none => .stuck) R H (kE Z Q) := q
    split at q
    · exact hX _ _ _ _ _ _ (q _ _ e2 s2)
    · exact q.elim
  | ok v T1 =>
    intro q H' R' e s' x px
    rw [hLen] at e
    obtain ⟨s2, e2⟩ := st.leave none s' e
    have q : Out Z B XE σ (match freeze (B ++ [T]).length T1 v with
      | some v' => .ok v' T
      | none => .stuck) R H (kE Z Q) := q
    split at q
    · rename_i v' hv
      rw [hLen] at hv
      exact q _ _ e2 s2 x (freeze_ok none st s' e _ v x v' hv px)
    · exact q.elim
/-- a call whose list or dict stays a cell -/
theorem call_keep (hX : ∀ σ c p T R H, XE σ c p T R H → False) (hf : Z.P.fns[f]? = some fd) (hk : fd.kind = .pure) (st : Sto Z R B T H) (r : Rps Z R args vs) (hl : args.length = n) (q : Out Z B XE σ (callN Z.P W (d + 1) true f args B T) R H (kE Z Q)) : spB Z W d f n vs H Q E := by
  unfold callN at q
  rw [hf] at q
  simp only [hk] at q
  refine ⟨R, B ++ [T], [], args, st.enter, r, hl, ?_⟩
  have hLen : (B ++ [T]).length = B.length + 1 := by rw [List.length_append, List.length_singleton]
  revert q
  cases bodyRun Z.P W (callN Z.P W d) f args (B ++ [T]) [] with
  | stuck => exact fun q => q.elim
  | exc c p T1 =>
    intro q H' R' e s'
    rw [hLen] at e
    obtain ⟨s2, e2⟩ := st.leave none s' e
    have q : Out Z B XE σ (match p.mapM (freeze (B.length + 1) T1) with
      | some p' => .exc c p' T
      | none => .stuck) R H (kE Z Q) := q
    split at q
    · exact hX _ _ _ _ _ _ (q _ _ e2 s2)
    · exact q.elim
  | ok v T1 =>
    intro q H' R' e s' x px
    rw [hLen] at e
    replace q : Out Z B XE σ (leaveF true (B ++ [T]) T T1 v) R H (kE Z Q) := q
    unfold leaveF at q
    simp only [if_true] at q
    split at q
    · rename_i l j
      split at q
      · rename_i hl2
        subst hl2
        simp only [Rp] at px
        obtain ⟨rfl, hj⟩ := px
        rw [hLen] at hj q ⊢
        obtain ⟨s2, e2⟩ := st.leave (some j) s' e
        have hT1 : ∀ c, T1[j]? = some c → R'.F (R'.φ (B.length + 1) j) = none ∧ CellOk Z R' H' (R'.φ (B.length + 1) j) c := fun c hc => s'.cell _ _ _ (by rw [← hLen]; exact top_at hc)
        have lose : ∀ o, H' (R'.φ (B.length + 1) j) = some o → R'.F (R'.φ (B.length + 1) j) = none → Loose (R'.leave (some j) R H' (B.length + 1)) H' (R'.φ (B.length + 1) j) o := fun o ho hF => by
          refine ⟨ho, ?_, fun l k hk2 hz => ?_⟩
          · show (if ∃ k, k < R'.n (B.length + 1) ∧ some j ≠ some k ∧ R'.φ (B.length + 1) k = R'.φ (B.length + 1) j then H' (R'.φ (B.length + 1) j) else R'.F (R'.φ (B.length + 1) j)) = none
            rw [if_neg]
            · exact hF
            · rintro ⟨k, hk3, hne, hz⟩
              exact hne (congrArg some (s'.inj _ _ _ _ hk3 hj hz).2.symm)
          · have hkR : k < R.n l := hk2
            have hl3 : l ≠ B.length + 1 := fun z => by subst z; rw [top_none st] at hkR; omega
            exact hl3 (s'.inj _ _ _ _ (Nat.lt_of_lt_of_le hkR (e.le.n l)) hj hz).1
        have hp : H (R'.φ (B.length + 1) j) = none := e.new _ _ (by rw [top_none st]; exact Nat.zero_le _) hj
        have fin : ∀ (o : HO) (c : Cell), Loose (R'.leave (some j) R H' (B.length + 1)) H' (R'.φ (B.length + 1) j) o → (∀ R3, Le (R'.leave (some j) R H' (B.length + 1)) R3 → CellOk Z R3 H' (R'.φ (B.length + 1) j) c) → Out Z B XE σ (.ok (.ref B.length T.length) (T ++ [c])) R H (kE Z Q) → Q (.ref (R'.φ (B.length + 1) j)) H' := fun o c lo hc q => by
          obtain ⟨e3, s3, _, h1, h2⟩ := lo.cell s2 e2 hp hc
          refine q _ _ e3 s3 _ ?_
          simp only [Rp]
          exact ⟨by rw [h1], h2⟩
        split at q
        · rename_i xs hx
          split at q
          · rename_i xs' hm
            obtain ⟨hF, ws, h1, h2⟩ := hT1 _ hx
            have h3 := frz_all (freeze_ok (some j) st s' e depth0) xs xs' ws hm h2
            exact fin _ (.lst xs') (lose _ h1 hF) (fun R3 l3 => ⟨ws, h1, Rps.mono l3 _ _ h3⟩) q
          · exact q.elim
        · rename_i ks ws hx
          split at q
          · rename_i ks' ws' hm hm2
            obtain ⟨hF, o, kv, vv, h1, h2, h3, h4⟩ := hT1 _ hx
            obtain ⟨rfl, h5⟩ := frz_dct (vs' := ws') hm h4
            have h6 := frz_all (freeze_ok (some j) st s' e depth0) _ _ _ hm h2
            have h7 := frz_all (freeze_ok (some j) st s' e depth0) _ _ _ hm2 h3
            exact fin _ (.dct _ _) (lose _ h1 hF) (fun R3 l3 => ⟨o, kv, vv, h1, Rps.mono l3 _ _ h6, Rps.mono l3 _ _ h7, h5⟩) q
          · exact q.elim
        · exact q.elim
      · exact q.elim
    · exact q.elim
end
end Mini
end
section
set_option linter.all false
set_option maxRecDepth 100000
set_option maxHeartbeats 2000000
namespace Mini
open PySem PySem.Spec PyProof.Rows L2

/-! ### constructors -/
section
variable {Z : Zt} {B : List Layer} {T : Layer} {XE : XT} {σ : L2.St} {R : Rn} {H : Hp} {Q : VK} {W d f n : Nat} {args : List MV} {fd : Fn} {vs : List V} {E : XK}
theorem rps_undef : ∀ k : Nat, Rps Z R (List.replicate k .undef) (List.replicate k V.non)
  | 0 => Rps.nil
  | k + 1 => by
    rw [List.replicate_succ, List.replicate_succ]
    exact Rps.cons (by simp only [Rp]) (rps_undef k)
theorem fld_new {c k : Nat} {cd : Cls} (hc : Z.P.cls[c]? = some cd) (hk : cd.flds.length = k) : FldR Z c (List.replicate k .undef) (List.replicate k V.non) [] := by
  refine ⟨⟨cd, hc, by rw [List.length_replicate]; exact hk, fun j f x v _ hx _ => ?_, fun m v h => by cases h⟩, Nat.zero_le _⟩
  rw [List.getElem?_replicate] at hx
  split at hx
  · cases hx; trivial
  · cases hx
/-- a new instance -/
theorem made_cell {c k : Nat} {cd : Cls} (hc : Z.P.cls[c]? = some cd) (hk : cd.flds.length = k) (st : Sto Z R B T H) {x dx : Addr} (h1 : H x = none) (h2 : H dx = none) (hne : dx ≠ x) :
    Ext B.length R (R.more B.length T.length x) H (upd (upd H dx (.own x)) x (.ins (Z.G.cls c) dx [])) ∧ Sto Z (R.more B.length T.length x) B (T ++ [.ins c (List.replicate k .undef)]) (upd (upd H dx (.own x)) x (.ins (Z.G.cls c) dx [])) ∧
      (R.more B.length T.length x).φ B.length T.length = x ∧ T.length < (R.more B.length T.length x).n B.length ∧ Le R (R.more B.length T.length x) := by
  obtain ⟨_, s1, e1⟩ := Loose.new (L := B.length) st h2 (.own x)
  have h3 : upd H dx (.own x) x = none := by rw [upd_ne (fun z => hne z.symm)]; exact h1
  obtain ⟨l2, s2, e2⟩ := Loose.new (L := B.length) s1 h3 (.ins (Z.G.cls c) dx [])
  obtain ⟨e3, s3, le, g1, g2⟩ := l2.cell (c := .ins c (List.replicate k .undef)) s2 (e1.trans e2) h1 fun R' _ => ⟨dx, [], List.replicate k V.non, upd_same, rps_undef k, fld_new hc hk⟩
  exact ⟨e3, s3, g1, g2, le⟩
theorem call_initM {c k : Nat} {cd : Cls} {kp : Bool} (hX : ∀ σ c p T R H, XE σ c p T R H → False) (hf : Z.P.fns[f]? = some fd) (hkd : fd.kind = .initM c k) (hc : Z.P.cls[c]? = some cd) (hk : cd.flds.length = k) (st : Sto Z R B T H) (r : Rps Z R args vs) (hl : args.length + 1 = n)
    (q : Out Z B XE σ (callN Z.P W (d + 1) kp f args B T) R H (kE Z Q)) {x dx : Addr} (h1 : H x = none) (h2 : H dx = none) (hne : dx ≠ x) :
    spB Z W d f n (.ref x :: vs) (upd (upd H dx (.own x)) x (.ins (Z.G.cls c) dx [])) (fun v H2 => v = .non ∧ Q (.ref x) H2) E := by
  unfold callN at q
  rw [hf] at q
  simp only [hkd] at q
  obtain ⟨e1, s1, g1, g2, le⟩ := made_cell hc hk st h1 h2 hne
  have pr : ∀ R', Le (R.more B.length T.length x) R' → Rp Z R' (.ref B.length T.length) (.ref x) := fun R' l => by
    simp only [Rp]
    exact ⟨by rw [l.φ _ _ g2, g1], Nat.lt_of_lt_of_le g2 (l.n _)⟩
  refine ⟨_, B, _, .ref B.length T.length :: args, s1, Rps.cons (pr _ (Le.refl _)) (Rps.mono le _ _ r), by simpa using hl, ?_⟩
  refine Out.to0 hX ((q.mono e1).bind.sto.imp fun v T1 R1 H1 _ ⟨e2, s2, k2⟩ w pw => ?_)
  split at k2
  · simp only [Rp] at pw
    exact ⟨pw, k2.ok s2 _ (pr _ e2.le)⟩
  · exact k2.elim
theorem call_initF {c k : Nat} {cd : Cls} {kp : Bool} (hX : ∀ σ c p T R H, XE σ c p T R H → False) (hf : Z.P.fns[f]? = some fd) (hkd : fd.kind = .initF c k) (hc : Z.P.cls[c]? = some cd) (hk : cd.flds.length = k) (st : Sto Z R B T H) (r : Rps Z R args vs) (hl : args.length + 1 = n)
    (q : Out Z B XE σ (callN Z.P W (d + 1) kp f args B T) R H (kE Z Q)) {x dx : Addr} (h1 : H x = none) (h2 : H dx = none) (hne : dx ≠ x) :
    spB Z W d f n (.ref x :: vs) (upd (upd H dx (.own x)) x (.ins (Z.G.cls c) dx [])) (fun v H2 => v = .non ∧ Q (.ref x) H2) E := by
  unfold callN at q
  rw [hf] at q
  simp only [hkd] at q
  have hLen : (B ++ [T]).length = B.length + 1 := by rw [List.length_append, List.length_singleton]
  obtain ⟨e1, s1, g1, g2, le⟩ := made_cell hc hk st.enter h1 h2 hne
  simp only [List.length_nil, List.nil_append] at e1 s1 g1 g2 le
  rw [hLen] at e1 s1 g1 g2 le
  have pr : ∀ R', Le (R.more (B.length + 1) 0 x) R' → Rp Z R' (.ref (B.length + 1) 0) (.ref x) := fun R' l => by
    simp only [Rp]
    exact ⟨by rw [l.φ _ _ g2, g1], Nat.lt_of_lt_of_le g2 (l.n _)⟩
  refine ⟨_, B ++ [T], _, .ref (B.length + 1) 0 :: args, s1, Rps.cons (pr _ (Le.refl _)) (Rps.mono le _ _ r), by simpa using hl, ?_⟩
  revert q
  cases bodyRun Z.P W (callN Z.P W d) f (.ref (B.length + 1) 0 :: args) (B ++ [T]) [.ins c (List.replicate k .undef)] with
  | stuck => exact fun q => q.elim
  | exc c p T1 =>
    intro q H' R' e s'
    rw [hLen] at e
    obtain ⟨s2, e2⟩ := st.leave none s' (e1.trans e)
    have q : Out Z B XE σ (match p.mapM (freeze (B.length + 1) T1) with
      | some p' => .exc c p' T
      | none => .stuck) R H (kE Z Q) := q
    split at q
    · exact hX _ _ _ _ _ _ (q _ _ e2 s2)
    · exact q.elim
  | ok v T1 =>
    intro q H' R' e s' w pw
    rw [hLen] at e
    obtain ⟨s2, e2⟩ := st.leave none s' (e1.trans e)
    have q : Out Z B XE σ (match v with
      | .non => match freeze (B.length + 1) T1 (.ref (B.length + 1) 0) with
        | some v => .ok v T
        | none => .stuck
      | _ => .stuck) R H (kE Z Q) := q
    split at q
    · simp only [Rp] at pw
      split at q
      · rename_i v' hv
        exact ⟨pw, q _ _ e2 s2 _ (freeze_ok none st s' (e1.trans e) _ _ _ _ hv (pr _ e.le))⟩
      · exact q.elim
    · exact q.elim
end
end Mini
end
section
set_option linter.all false
set_option maxRecDepth 100000
set_option maxHeartbeats 2000000
namespace Mini
open PySem PySem.Spec PyProof.Rows L2

/-! ### calls in the text -/
def Es.len : Es → Nat
  | .nil => 0
  | .cons _ es => es.len + 1
theorem evs_len {C : Ctx} : ∀ (es : Es) (δ : List MV) (T : Layer) (vs : List MV) (T' : Layer), evs C es δ T = .ok vs T' → vs.length = es.len
  | .nil, δ, T, vs, T', h => by simp only [evs] at h; cases h; rfl
  | .cons e es, δ, T, vs, T', h => by
    simp only [evs] at h
    obtain ⟨x, T1, h1, h⟩ := bindOk h
    obtain ⟨xs, T2, h2, h⟩ := bindOk h
    cases h
    simp only [List.length_cons, Es.len, evs_len es _ _ _ _ h2]
def isDef : Kind → Bool
  | .imp => true
  | .pure => true
  | _ => false
section
variable {Z : Zt} {B : List Layer} {T : Layer} {XE : XT} {σ : L2.St} {R : Rn} {H : Hp} {Q : VK} {W d f n : Nat} {args : List MV} {fd : Fn} {vs : List V} {E : XK}
theorem call_def {kp : Bool} (hX : ∀ σ c p T R H, XE σ c p T R H → False) (hf : Z.P.fns[f]? = some fd) (hk : isDef fd.kind = true) (st : Sto Z R B T H) (r : Rps Z R args vs) (hl : args.length = n) (q : Out Z B XE σ (callN Z.P W (d + 1) kp f args B T) R H (kE Z Q)) : spB Z W d f n vs H Q E := by
  cases hkd : fd.kind with
  | imp => exact call_imp hX hf hkd st r hl q
  | pure =>
    cases kp with
    | true => exact call_keep hX hf hkd st r hl q
    | false => exact call_pure hX hf hkd st r hl q
  | initF c k => rw [hkd] at hk; cases hk
  | initM c k => rw [hkd] at hk; cases hk
end
/-- the promise at a level: at none, nothing is promised -/
def spD (Z : Zt) (W : Nat) : Nat → Nat → Nat → Sp
  | 0, _, _ => fun _ _ _ _ => False
  | d + 1, f, n => spB Z W d f n
section
variable {Z : Zt} {B : List Layer} {T : Layer} {XE : XT} {σ : L2.St} {R : Rn} {H : Hp} {Q : VK} {W d f n : Nat} {args : List MV} {fd : Fn} {vs : List V} {E : XK}
theorem call_defD {kp : Bool} (hX : ∀ σ c p T R H, XE σ c p T R H → False) (hf : Z.P.fns[f]? = some fd) (hk : isDef fd.kind = true) (st : Sto Z R B T H) (r : Rps Z R args vs) (hl : args.length = n) (q : Out Z B XE σ (callN Z.P W d kp f args B T) R H (kE Z Q)) : spD Z W d f n vs H Q E := by
  cases d with
  | zero => exact False.elim q
  | succ d => exact call_def (E := E) hX hf hk st r hl q
end
/-- how the actual parameters come from the arguments and the defaults -/
def ParOk (Z : Zt) (am : List AM) (m n : Nat) (dvs : List V) : Prop := ∀ (R : Rn) (args : List MV) (vs : List V), Rps Z R args vs → args.length = m → Rps Z R (params am args) (vs ++ dvs) ∧ (params am args).length = n
section
variable {X : Cx} {Z : Zt} {C : Ctx} {XE : XT} {e o : PySem.Expr} {es : List PySem.Expr} {mo : E} {mes : Es} {p pos apos : Pos} {W d fi k m n : Nat} {mfd : Fn} {fa : Addr} {fd : FuncData} {ps : List Str} {dvs : List V} {ds : List Value} {x : Str} {am : List AM} {kp : Bool}
theorem s_call (hX : ∀ σ c p T R H, XE σ c p T R H → False) (hcall : C.call = callN Z.P W d) (hf : Z.P.fns[fi]? = some mfd) (hkd : isDef mfd.kind = true) (hpar : ParOk Z am mes.len n dvs)
    (F : FnOk X.prog X.w X.K X.mg X.base CX0 k fa fd ps (spD Z W d fi n)) (hr : Room k X.A) (hg : Gl X x) (hm : X.mg x = some (.ref fa)) (hkp : PySem.W.keepIn X.K (.ref fa) = true) (hb : Binds X.K fd ps ds) (hd : Vals dvs ds) (ha : PA X (e :: es) (tEs Z C XE mes))
    (hdb : (x == ("__debug__" : Str)) = false := by decide) (he : starEach (e :: es) X.env = (false, eval e X.env) :: starEach es X.env := by rfl) (hpl : (backTo pos (starEach es X.env)).any (·.1) = false := by rfl) :
    PE X (.Call (.Name x p) (e :: es) [] pos) (tE Z C XE (.call kp fi am mes)) :=
  PEimp (pe_call F hr hg hm hkp hb hd pass0 ha hdb he hpl) fun σ H Q ⟨R, δ, T, fr, st, q⟩ => by
    simp only [ev, hcall] at q
    refine ⟨R, δ, T, fr, st, q.bind.sto.imp fun args T1 R1 H1 hev ⟨e1, s1, k1⟩ vs pv => ?_⟩
    obtain ⟨h1, h2⟩ := hpar R1 args vs pv (evs_len _ _ _ _ _ hev)
    exact call_defD hX hf hkd s1 h1 h2 k1
theorem s_call0 (hX : ∀ σ c p T R H, XE σ c p T R H → False) (hcall : C.call = callN Z.P W d) (hf : Z.P.fns[fi]? = some mfd) (hkd : isDef mfd.kind = true) (hpar : ParOk Z am 0 n dvs)
    (F : FnOk X.prog X.w X.K X.mg X.base CX0 k fa fd ps (spD Z W d fi n)) (hr : Room k X.A) (hg : Gl X x) (hm : X.mg x = some (.ref fa)) (hkp : PySem.W.keepIn X.K (.ref fa) = true) (hb : Binds X.K fd ps ds) (hd : Vals dvs ds) (hdb : (x == ("__debug__" : Str)) = false := by decide) :
    PE X (.Call (.Name x p) [] [] pos) (tE Z C XE (.call kp fi am .nil)) :=
  PEimp (pe_call0 F hr hg hm hkp hb hd pass0 hdb) fun σ H Q ⟨R, δ, T, fr, st, q⟩ => by
    simp only [ev, evs, hcall] at q
    have q : Out Z C.B XE σ (callN Z.P W d kp fi (params am []) C.B T) R H (kE Z Q) := q
    obtain ⟨h1, h2⟩ := hpar R [] [] Rps.nil rfl
    exact call_defD (E := E0) hX hf hkd st h1 h2 q
/-- what is to be known of a method that one class alone has -/
structure MethOk (Z : Zt) (K : PySem.W.Frag) (m : Nat) (nm : Str) (c fi : Nat) (fa : Addr) : Prop where
  one : ∀ (c' : Nat) (cd : Cls) (g : Nat), Z.P.cls[c']? = some cd → cd.meths.lookup m = some g → c' = c ∧ g = fi
  no : ∀ (c' : Nat) (cd : Cls) (f : Nat), Z.P.cls[c']? = some cd → f ∈ cd.flds → Z.G.nm f ≠ nm
  cls : L2.Cls K (Z.G.cls c)
  at_ : Meth K (Z.G.cls c) nm fa
theorem meth_read {m c0 : Nat} {nm : Str} {Q : VK} {σ : L2.St} {H : Hp} {r : V → Hp → Prop} (hx : XOk X Z C) (M : MethOk Z X.K m nm c0 fi fa) (h : tE Z C XE (.meth kp mo m am mes) σ H Q)
    (w : ∀ x T1 R1 δ H1 a dx gs, Frm Z R1 δ σ → Sto Z R1 C.B T1 H1 → Rp Z R1 x (.ref a) → H1 a = some (.ins (Z.G.cls c0) dx gs) → gs.lookup nm = none → Out Z C.B XE σ ((evs C mes δ T1).bind fun vs T2 => C.call kp fi (x :: params am vs) C.B T2) R1 H1 (kE Z Q) → r (.ref a) H1) :
    tE Z C XE mo σ H r := by
  obtain ⟨R, δ, T, fr, st, q⟩ := h
  simp only [ev] at q
  refine one fr st q fun x T1 R1 H1 vx e1 f1 s1 p1 k1 => ?_
  split at k1
  · rename_i c fs hi
    split at k1
    · rename_i cd hc
      rw [hx.P] at hc
      split at k1
      · rename_i g hg
        obtain ⟨rfl, rfl⟩ := M.one c cd g hc hg
        obtain ⟨a, dx, gs, ws, rfl, g1, g2, g3⟩ := insOf_ok s1 p1 hi
        refine w x T1 R1 δ H1 a dx gs f1 s1 p1 g1 ?_ k1
        cases hl : gs.lookup nm with
        | none => rfl
        | some v =>
          obtain ⟨cd', e2, _, _, e3⟩ := g3.flds
          obtain ⟨f, hf, e4⟩ := e3 nm v hl
          exact absurd e4 (M.no _ _ _ e2 hf)
      · exact k1.elim
    · exact k1.elim
  · exact k1.elim
theorem s_meth {m c0 : Nat} {nm : Str} {pl : Sem Bool} (hx : XOk X Z C) (M : MethOk Z X.K m nm c0 fi fa) (hX : ∀ σ c p T R H, XE σ c p T R H → False) (hcall : C.call = callN Z.P W d) (hf : Z.P.fns[fi]? = some mfd) (hkd : isDef mfd.kind = true) (hpar : ParOk Z am mes.len n dvs)
    (F : FnOk X.prog X.w X.K X.mg X.base CX0 k fa fd ps (spD Z W d fi (n + 1))) (hr : Room k X.A) (hb : Binds X.K fd ps ds) (hd : Vals dvs ds) (ho : PE X o (tE Z C XE mo)) (ha : PA X (e :: es) (tEs Z C XE mes))
    (hst : starEach (e :: es) X.env = (false, eval e X.env) :: starEach es X.env := by rfl) (hpl : (backTo pos (starEach es X.env)).any (·.1) = false := by rfl)
    (ht : eval (.Call (.Attribute o nm apos) (e :: es) [] pos) X.env = (do
      let ov ← eval o X.env
      standAt apos.atName
      let (f, first) ← holding [ov] (getMethod ov nm pl)
      callWith pos f first (backTo pos (starEach (e :: es) X.env)) (backToKw pos (keywordEach [] X.env))) := by rfl) :
    PE X (.Call (.Attribute o nm apos) (e :: es) [] pos) (tE Z C XE (.meth kp mo m am mes)) :=
  PEimp (pe_meth ho M.cls M.at_ F hr hb hd pass0 ha hst hpl ht) fun σ H Q h => meth_read hx M h fun x T1 R1 δ H1 a dx gs f1 s1 p1 g1 g2 k1 => by
    rw [hcall] at k1
    refine ⟨a, dx, gs, rfl, g1, g2, R1, δ, T1, f1, s1, k1.bind.sto.imp fun args T2 R2 H2 hev ⟨e2, s2, k2⟩ vs pv => ?_⟩
    obtain ⟨h1, h2⟩ := hpar R2 args vs pv (evs_len _ _ _ _ _ hev)
    exact call_defD hX hf hkd s2 (Rps.cons (Rp.mono e2.le _ _ p1) h1) (by simp [h2]) k2
theorem s_meth0 {m c0 : Nat} {nm : Str} {pl : Sem Bool} (hx : XOk X Z C) (M : MethOk Z X.K m nm c0 fi fa) (hX : ∀ σ c p T R H, XE σ c p T R H → False) (hcall : C.call = callN Z.P W d) (hf : Z.P.fns[fi]? = some mfd) (hkd : isDef mfd.kind = true) (hpar : ParOk Z am 0 n dvs)
    (F : FnOk X.prog X.w X.K X.mg X.base CX0 k fa fd ps (spD Z W d fi (n + 1))) (hr : Room k X.A) (hb : Binds X.K fd ps ds) (hd : Vals dvs ds) (ho : PE X o (tE Z C XE mo))
    (ht : eval (.Call (.Attribute o nm apos) [] [] pos) X.env = (do
      let ov ← eval o X.env
      standAt apos.atName
      let (f, first) ← holding [ov] (getMethod ov nm pl)
      callWith pos f first (backTo pos (starEach [] X.env)) (backToKw pos (keywordEach [] X.env))) := by rfl) :
    PE X (.Call (.Attribute o nm apos) [] [] pos) (tE Z C XE (.meth kp mo m am .nil)) :=
  PEimp (pe_meth0 ho M.cls M.at_ F hr hb hd pass0 ht) fun σ H Q h => meth_read hx M h fun x T1 R1 δ H1 a dx gs f1 s1 p1 g1 g2 k1 => by
    rw [hcall] at k1
    simp only [evs] at k1
    have k1 : Out Z C.B XE σ (callN Z.P W d kp fi (x :: params am []) C.B T1) R1 H1 (kE Z Q) := k1
    obtain ⟨h1, h2⟩ := hpar R1 [] [] Rps.nil rfl
    exact ⟨a, dx, gs, rfl, g1, g2, call_defD (E := E0) hX hf hkd s1 (Rps.cons p1 h1) (by simp [h2]) k1⟩
end
end Mini
end
section
set_option linter.all false
set_option maxRecDepth 100000
set_option maxHeartbeats 2000000
namespace Mini
open PySem PySem.Spec PyProof.Rows L2

/-! ### constructors in the text -/
def initOf : Kind → Option (Nat × Nat)
  | .initF c k => some (c, k)
  | .initM c k => some (c, k)
  | _ => none
section
variable {Z : Zt} {B : List Layer} {T : Layer} {XE : XT} {σ : L2.St} {R : Rn} {H : Hp} {Q : VK} {W d f n : Nat} {args : List MV} {fd : Fn} {vs : List V} {E : XK}
theorem call_init {c k : Nat} {cd : Cls} {kp : Bool} (hX : ∀ σ c p T R H, XE σ c p T R H → False) (hf : Z.P.fns[f]? = some fd) (hkd : initOf fd.kind = some (c, k)) (hc : Z.P.cls[c]? = some cd) (hk : cd.flds.length = k) (st : Sto Z R B T H) (r : Rps Z R args vs) (hl : args.length + 1 = n)
    (q : Out Z B XE σ (callN Z.P W (d + 1) kp f args B T) R H (kE Z Q)) {x dx : Addr} (h1 : H x = none) (h2 : H dx = none) (hne : dx ≠ x) :
    spB Z W d f n (.ref x :: vs) (upd (upd H dx (.own x)) x (.ins (Z.G.cls c) dx [])) (fun v H2 => v = .non ∧ Q (.ref x) H2) E := by
  cases hkk : fd.kind with
  | imp => rw [hkk] at hkd; cases hkd
  | pure => rw [hkk] at hkd; cases hkd
  | initF c' k' => rw [hkk] at hkd; cases hkd; exact call_initF hX hf hkk hc hk st r hl q h1 h2 hne
  | initM c' k' => rw [hkk] at hkd; cases hkd; exact call_initM hX hf hkk hc hk st r hl q h1 h2 hne
end
section
variable {Z : Zt} {B : List Layer} {T : Layer} {XE : XT} {σ : L2.St} {R : Rn} {H : Hp} {Q : VK} {W d f n : Nat} {args : List MV} {fd : Fn} {vs : List V} {E : XK}
theorem call_initD {c k : Nat} {cd : Cls} {kp : Bool} (hX : ∀ σ c p T R H, XE σ c p T R H → False) (hf : Z.P.fns[f]? = some fd) (hkd : initOf fd.kind = some (c, k)) (hc : Z.P.cls[c]? = some cd) (hk : cd.flds.length = k) (st : Sto Z R B T H) (r : Rps Z R args vs) (hl : args.length + 1 = n)
    (q : Out Z B XE σ (callN Z.P W d kp f args B T) R H (kE Z Q)) {x dx : Addr} (h1 : H x = none) (h2 : H dx = none) (hne : dx ≠ x) :
    spD Z W d f n (.ref x :: vs) (upd (upd H dx (.own x)) x (.ins (Z.G.cls c) dx [])) (fun v H2 => v = .non ∧ Q (.ref x) H2) E := by
  cases d with
  | zero => exact False.elim q
  | succ d => exact call_init (E := E) hX hf hkd hc hk st r hl q h1 h2 hne
end
section
variable {X : Cx} {Z : Zt} {C : Ctx} {XE : XT} {e o : PySem.Expr} {es : List PySem.Expr} {mo : E} {mes mks : Es} {p pos apos : Pos} {W d fi k m n c nf : Nat} {cd : Cls} {mfd : Fn} {fa : Addr} {fd : FuncData} {ps ks : List Str} {dvs : List V} {ds : List Value} {x : Str} {am : List AM} {kp : Bool}
theorem s_make (hX : ∀ σ c p T R H, XE σ c p T R H → False) (hcall : C.call = callN Z.P W d) (hf : Z.P.fns[fi]? = some mfd) (hkd : initOf mfd.kind = some (c, nf)) (hc : Z.P.cls[c]? = some cd) (hnf : cd.flds.length = nf) (hpar : ParOk Z am mes.len n dvs)
    (M : Mk X.K (Z.G.cls c) fa) (F : FnOk X.prog X.w X.K X.mg X.base CX0 k fa fd ps (spD Z W d fi (n + 1))) (hr : Room (k + 1) X.A) (hg : Gl X x) (hm : X.mg x = some (.ref (Z.G.cls c))) (hb : Binds X.K fd ps ds) (hd : Vals dvs ds) (ha : PA X (e :: es) (tEs Z C XE mes))
    (hdb : (x == ("__debug__" : Str)) = false := by decide) (he : starEach (e :: es) X.env = (false, eval e X.env) :: starEach es X.env := by rfl) (hpl : (backTo pos (starEach es X.env)).any (·.1) = false := by rfl) :
    PE X (.Call (.Name x p) (e :: es) [] pos) (tE Z C XE (.call kp fi am mes)) :=
  PEimp (pe_make M F hr hg hm hb hd pass0 ha hdb he hpl) fun σ H Q ⟨R, δ, T, fr, st, q⟩ => by
    simp only [ev, hcall] at q
    refine ⟨R, δ, T, fr, st, q.bind.sto.imp fun args T1 R1 H1 hev ⟨e1, s1, k1⟩ vs pv x dx h1 h2 hne => ?_⟩
    obtain ⟨g1, g2⟩ := hpar R1 args vs pv (evs_len _ _ _ _ _ hev)
    exact call_initD hX hf hkd hc hnf s1 g1 (by rw [g2]) k1 h1 h2 hne
/-- .. with arguments by name: in the text of Mini they stand behind the others -/
def Es.app : Es → Es → Es
  | .nil, fs => fs
  | .cons e es, fs => .cons e (es.app fs)
theorem evs_app {C : Ctx} : ∀ (es fs : Es) (δ : List MV) (T : Layer), evs C (es.app fs) δ T = (evs C es δ T).bind fun xs T1 => (evs C fs δ T1).bind fun ys T2 => .ok (xs ++ ys) T2
  | .nil, fs, δ, T => by
    simp only [Es.app, evs, Res.bind, List.nil_append]
    cases evs C fs δ T <;> rfl
  | .cons e es, fs, δ, T => by
    simp only [Es.app, evs, evs_app es fs, bind_ok]
    congr 1
theorem app_len : ∀ (es fs : Es), (es.app fs).len = es.len + fs.len
  | .nil, fs => by simp [Es.app, Es.len]
  | .cons e es, fs => by simp only [Es.app, Es.len, app_len es fs]; omega
def tKs (Z : Zt) (C : Ctx) (XE : XT) (es : Es) : TA := tEs Z C XE es
theorem PKimp {kws : List Keyword} {t t' : TA} (h : PK X kws t) (w : ∀ σ H Q, t' σ H Q → t σ H Q) : PK X kws t' := ⟨fun p pins s σ H Q I q => h.run p pins s σ H Q I (w σ H Q q)⟩
theorem ks_nil : PK X [] (tKs Z C XE .nil) := PKimp pk_nil fun σ H Q ⟨R, δ, T, _, st, q⟩ => by
  simp only [evs] at q
  exact q.ok st [] Rps.nil
theorem ks_cons {kws : List Keyword} {nm : Option Str} {kpos : Pos} {ma : E} (ha : PE X e (tE Z C XE ma)) (hr : PK X kws (tKs Z C XE mks)) : PK X (⟨nm, e, kpos⟩ :: kws) (tKs Z C XE (.cons ma mks)) :=
  PKimp (pk_cons ha hr) fun σ H Q ⟨R, δ, T, fr, st, q⟩ => by
    simp only [evs] at q
    exact one fr st q fun x T1 R1 H1 vx e1 f1 s1 p1 k1 => ⟨R1, δ, T1, f1, s1, k1.bind.sto.imp fun xs T2 R2 H2 _ ⟨e2, s2, k2⟩ vs pv => k2.ok s2 (vx :: vs) (Rps.cons (Rp.mono e2.le _ _ p1) pv)⟩
/-- how the parameters come from arguments by place, by name, and defaults -/
def ParK (Z : Zt) (am : List AM) (m mk n : Nat) (gV : List V → List V → List V) : Prop := ∀ (R : Rn) (args kargs : List MV) (x : V) (mx : MV) (vs zs : List V), Rps Z R args vs → Rps Z R kargs zs → Rp Z R mx x → args.length = m → kargs.length = mk → Rps Z R (mx :: params am (args ++ kargs)) (gV (x :: vs) zs) ∧ (params am (args ++ kargs)).length = n
theorem s_makeK {kws : List Keyword} {g : List Value → List Value → List Value} {gV : List V → List V → List V} (hX : ∀ σ c p T R H, XE σ c p T R H → False) (hcall : C.call = callN Z.P W d) (hf : Z.P.fns[fi]? = some mfd) (hkd : initOf mfd.kind = some (c, nf)) (hc : Z.P.cls[c]? = some cd) (hnf : cd.flds.length = nf)
    (hpar : ∀ (R : Rn) (args kargs : List MV) (vs zs : List V), Rps Z R args vs → Rps Z R kargs zs → args.length = mes.len → kargs.length = mks.len → ∃ ws, Rps Z R (params am (args ++ kargs)) ws ∧ (∀ x, gV (x :: vs) zs = x :: ws) ∧ (params am (args ++ kargs)).length = n)
    (M : Mk X.K (Z.G.cls c) fa) (F : FnOk X.prog X.w X.K X.mg X.base CX0 k fa fd ps (spD Z W d fi (n + 1))) (hr : Room (k + 1) X.A) (hg : Gl X x) (hm : X.mg x = some (.ref (Z.G.cls c))) (hb : KBn X.K fd ps (mes.len + 1) ks g gV) (ha : PA X (e :: es) (tEs Z C XE mes)) (hkw : PK X kws (tKs Z C XE mks)) (hks' : mks.len = ks.length)
    (hall : (backToKw pos (keywordEach kws X.env)).all (·.1.isSome) = true := by rfl) (hks : (backToKw pos (keywordEach kws X.env)).filterMap (·.1) = ks := by rfl)
    (hdb : (x == ("__debug__" : Str)) = false := by decide) (he : starEach (e :: es) X.env = (false, eval e X.env) :: starEach es X.env := by rfl)
    (hpl : ((backTo pos (starEach (e :: es) X.env)).any (·.1) || (backToKw pos (keywordEach kws X.env)).any (·.1.isNone)) = false := by rfl) :
    PE X (.Call (.Name x p) (e :: es) kws pos) (tE Z C XE (.call kp fi am (mes.app mks))) :=
  PEimp (pe_makeN M F hr hg hm hb pass0 ha hkw hall hks hdb he hpl) fun σ H Q ⟨R, δ, T, fr, st, q⟩ => by
    simp only [ev, hcall, evs_app, bind_ok] at q
    refine ⟨R, δ, T, fr, st, q.bind.sto.imp fun args T1 R1 H1 hev ⟨e1, s1, k1⟩ vs pv => ?_⟩
    refine ⟨R1, δ, T1, fr.mono e1.le, s1, k1.bind.sto.imp fun kargs T2 R2 H2 hev2 ⟨e2, s2, k2⟩ zs pz => ?_⟩
    have pv2 := Rps.mono e2.le _ _ pv
    have l1 := evs_len _ _ _ _ _ hev
    have l2 := evs_len _ _ _ _ _ hev2
    obtain ⟨ws, g1, g2, g3⟩ := hpar R2 args kargs vs zs pv2 pz l1 l2
    refine ⟨by rw [pv.len, l1], by rw [pz.len, l2, hks'], fun x dx h1 h2 hne => ?_⟩
    rw [g2]
    exact call_initD hX hf hkd hc hnf s2 g1 (by rw [g3]) k2 h1 h2 hne
end
end Mini
end
section
set_option linter.all false
set_option maxRecDepth 100000
set_option maxHeartbeats 2000000
namespace Mini
open PySem PySem.Spec PyProof.Rows L2

section
variable {X : Cx} {Z : Zt} {C : Ctx} {XE : XT} {e o : PySem.Expr} {es : List PySem.Expr} {mo : E} {mes mks : Es} {p pos apos : Pos} {W d fi k m n c : Nat} {mfd : Fn} {fa : Addr} {fd : FuncData} {ps ks : List Str} {dvs : List V} {ds : List Value} {x : Str} {am : List AM} {kp : Bool}
/-- a property that one class alone has; no class has a plain attribute of that name -/
structure PropOk (Z : Zt) (K : PySem.W.Frag) (f : Nat) (nm : Str) (c fi : Nat) (pa fa : Addr) : Prop where
  one : ∀ (c' : Nat) (cd : Cls), Z.P.cls[c']? = some cd → (∃ g, cd.props.lookup f = some g ∧ c' = c ∧ g = fi) ∨ (cd.props.lookup f = none ∧ cd.flds.idxOf? f = none)
  cls : L2.Cls K (Z.G.cls c)
  at_ : PropOf K (Z.G.cls c) nm pa fa
theorem s_prop {f : Nat} {nm : Str} {pa : Addr} (hx : XOk X Z C) (M : PropOk Z X.K f nm c fi pa fa) (hX : ∀ σ c p T R H, XE σ c p T R H → False) (hcall : C.call = callN Z.P W d) (hf : Z.P.fns[fi]? = some mfd) (hkd : isDef mfd.kind = true)
    (F : FnOk X.prog X.w X.K X.mg X.base CX0 k fa fd ps (spD Z W d fi 1)) (hr : Room (k + 1) X.A) (hb : Binds X.K fd ps []) (he : PE X e (tE Z C XE mo)) (hab : attributeBase e nm X.env (eval e X.env) = eval e X.env := by rfl) :
    PE X (.Attribute e nm pos) (tE Z C XE (.fld kp mo f)) :=
  PEimp (pe_prop he M.cls M.at_ F hr hb .nil pass0 hab) fun σ H Q ⟨R, δ, T, fr, st, q⟩ => by
    simp only [ev] at q
    refine one fr st q fun x T1 R1 H1 vx e1 f1 s1 p1 k1 => ?_
    split at k1
    · rename_i c' fs hi
      split at k1
      · rename_i cd hc
        rw [hx.P] at hc
        rcases M.one c' cd hc with ⟨g, h1, rfl, rfl⟩ | ⟨h1, h2⟩
        · rw [h1] at k1
          simp only at k1
          rw [hcall] at k1
          obtain ⟨a, dx, gs, ws, rfl, g1, g2, g3⟩ := insOf_ok s1 p1 hi
          exact ⟨a, dx, gs, rfl, g1, call_defD (E := E0) hX hf hkd s1 (Rps.cons p1 Rps.nil) rfl k1⟩
        · rw [h1] at k1
          simp only at k1
          rw [h2] at k1
          exact k1.elim
      · exact k1.elim
    · exact k1.elim
end
end Mini
end
section
set_option linter.all false
set_option maxRecDepth 100000
set_option maxHeartbeats 2000000
namespace Mini
open PySem PySem.Spec PyProof.Rows L2

/-! ### the order -/
theorem toPDs_map : ∀ xs : List MV, toPDs xs = xs.map toPD
  | [] => rfl
  | x :: xs => by simp only [toPDs, List.map_cons, toPDs_map xs]
mutual
theorem alike_pd : ∀ (n : Nat) (x y : MV), dat n x = true → dat n y = true → alike x y = PySem.W.alike (toPD x) (toPD y)
  | n, .non, y, _, h => by cases y <;> first | (simp [alike, toPD, PySem.W.alike]; done) | (cases n <;> simp [dat] at h)
  | n, .bl _, y, _, h => by cases y <;> first | (simp [alike, toPD, PySem.W.alike]; done) | (cases n <;> simp [dat] at h)
  | n, .int _, y, _, h => by cases y <;> first | (simp [alike, toPD, PySem.W.alike]; done) | (cases n <;> simp [dat] at h)
  | n, .str _, y, _, h => by cases y <;> first | (simp [alike, toPD, PySem.W.alike]; done) | (cases n <;> simp [dat] at h)
  | 0, .tup _, _, h, _ => by simp [dat] at h
  | 0, .lst _, _, h, _ => by simp [dat] at h
  | n + 1, .tup xs, y, h, h' => by
    cases y with
    | tup ys =>
      simp only [dat] at h h'
      simp only [alike, toPD, PySem.W.alike]
      exact alikes_pd n xs ys h h'
    | undef => simp [dat] at h'
    | dct _ _ => simp [dat] at h'
    | ins _ _ => simp [dat] at h'
    | ref _ _ => simp [dat] at h'
    | _ => simp [alike, toPD, PySem.W.alike]
  | n + 1, .lst xs, y, h, h' => by
    cases y with
    | lst ys =>
      simp only [dat] at h h'
      simp only [alike, toPD, PySem.W.alike]
      exact alikes_pd n xs ys h h'
    | undef => simp [dat] at h'
    | dct _ _ => simp [dat] at h'
    | ins _ _ => simp [dat] at h'
    | ref _ _ => simp [dat] at h'
    | _ => simp [alike, toPD, PySem.W.alike]
  | n, .undef, _, h, _ => by cases n <;> simp [dat] at h
  | n, .dct _ _, _, h, _ => by cases n <;> simp [dat] at h
  | n, .ins _ _, _, h, _ => by cases n <;> simp [dat] at h
  | n, .ref _ _, _, h, _ => by cases n <;> simp [dat] at h
theorem alikes_pd : ∀ (n : Nat) (xs ys : List MV), xs.all (dat n) = true → ys.all (dat n) = true → alikes xs ys = PySem.W.alikeAll (toPDs xs) (toPDs ys)
  | n, [], ys, _, _ => by cases ys <;> simp [alikes, toPDs, PySem.W.alikeAll]
  | n, x :: xs, [], _, _ => by simp [alikes, toPDs, PySem.W.alikeAll]
  | n, x :: xs, y :: ys, h, h' => by
    simp only [List.all_cons, Bool.and_eq_true] at h h'
    simp only [alikes, toPDs, PySem.W.alikeAll, alike_pd n x y h.1 h'.1, alikes_pd n xs ys h.2 h'.2]
end
mutual
theorem mlt_pd : ∀ (n : Nat) (x y : MV), dat n x = true → dat n y = true → alike x y = true → mlt x y = PySem.W.dataLt (toPD x) (toPD y)
  | n, .non, y, _, h, a => by
    cases y <;> simp [alike] at a
    simp only [mlt, toPD, PySem.W.dataLt, PySem.W.keyToks]
    rfl
  | n, .bl p, y, _, h, a => by
    cases y <;> simp [alike] at a
    rename_i q
    simp only [mlt, toPD, PySem.W.dataLt_bool]
    cases p <;> cases q <;> decide
  | n, .int _, y, _, h, a => by
    cases y <;> simp [alike] at a
    simp only [mlt, toPD, PySem.W.dataLt_int]
  | n, .str _, y, _, h, a => by
    cases y <;> simp [alike] at a
    simp only [mlt, toPD, PySem.W.dataLt_str]
  | 0, .tup _, _, h, _, _ => by simp [dat] at h
  | 0, .lst _, _, h, _, _ => by simp [dat] at h
  | n + 1, .tup xs, y, h, h', a => by
    cases y <;> simp [alike] at a
    simp only [dat] at h h'
    simp only [mlt, toPD, PySem.W.dataLt_tuple]
    exact mlts_pd n xs _ h h' a
  | n + 1, .lst xs, y, h, h', a => by
    cases y <;> simp [alike] at a
    simp only [dat] at h h'
    simp only [mlt, toPD, PySem.W.dataLt_list]
    exact mlts_pd n xs _ h h' a
  | n, .undef, _, h, _, _ => by cases n <;> simp [dat] at h
  | n, .dct _ _, _, h, _, _ => by cases n <;> simp [dat] at h
  | n, .ins _ _, _, h, _, _ => by cases n <;> simp [dat] at h
  | n, .ref _ _, _, h, _, _ => by cases n <;> simp [dat] at h
theorem mlts_pd : ∀ (n : Nat) (xs ys : List MV), xs.all (dat n) = true → ys.all (dat n) = true → alikes xs ys = true → mlts xs ys = PySem.W.rowLt (toPDs xs) (toPDs ys)
  | n, [], [], _, _, _ => by
    simp only [mlts, toPDs]
    exact (PyProof.Rows.lex_irrefl _).symm
  | n, [], y :: ys, _, _, _ => by
    simp only [mlts, toPDs]
    unfold PySem.W.rowLt
    simp only [PySem.W.keyToksAll]
    exact ((PySem.W.lex_atom (by simp) _ _).trans (by decide)).symm
  | n, x :: xs, [], _, _, _ => by
    simp only [mlts, toPDs]
    unfold PySem.W.rowLt
    simp only [PySem.W.keyToksAll]
    exact ((PySem.W.lex_atom (by simp) _ _).trans (by decide)).symm
  | n, x :: xs, y :: ys, h, h', a => by
    simp only [List.all_cons, Bool.and_eq_true] at h h'
    simp only [alikes, Bool.and_eq_true] at a
    have a1 : PySem.W.alike (toPD x) (toPD y) = true := by rw [← alike_pd n x y h.1 h'.1]; exact a.1
    simp only [mlts, toPDs]
    unfold PySem.W.rowLt
    rw [PySem.W.dataLt_cons a1, ← eqv_pd n x y h.1 h'.1, mlts_pd n xs ys h.2 h'.2 a.2, mlt_pd n x y h.1 h'.1 a.1]
    rfl
end
/-! ### sorting by insertion is the stable sorting -/
theorem ins_split {le : MV → MV → Bool} {x : MV} : ∀ (l₁ l₂ : List MV), (∀ b ∈ l₁, mlt b x = true) → (∀ b ∈ l₂, mlt b x = false) → insS x (l₁ ++ l₂) = l₁ ++ x :: l₂
  | [], [], _, _ => by simp [insS]
  | [], y :: r, _, h => by
    have h1 := h y (List.mem_cons_self ..)
    simp [insS, h1]
  | y :: r, l₂, h, h2 => by
    have h1 := h y (List.mem_cons_self ..)
    simp only [List.cons_append, insS, h1, if_true]
    rw [ins_split (le := le) r l₂ (fun b hb => h b (List.mem_cons_of_mem _ hb)) h2]
abbrev leD : MV → MV → Bool := PySem.W.dataLe false toPD
theorem leD_eq (x y : MV) : leD x y = !PySem.W.dataLt (toPD y) (toPD x) := rfl
theorem leD_tot : PySem.W.TotalLe leD := PySem.W.sortLe_total _ _ _
theorem leD_tot2 (a b : MV) : (leD a b || leD b a) = true := by
  rw [Bool.or_eq_true]
  exact leD_tot.total a b
theorem isort_ms : ∀ xs : List MV, xs.all (dat 39) = true → (∀ x ∈ xs, ∀ y ∈ xs, alike x y = true) → isort xs = xs.mergeSort leD
  | [], _, _ => by simp [isort]
  | x :: xs, h, ha => by
    simp only [List.all_cons, Bool.and_eq_true] at h
    have ih := isort_ms xs h.2 fun y hy z hz => ha y (List.mem_cons_of_mem _ hy) z (List.mem_cons_of_mem _ hz)
    obtain ⟨l₁, l₂, e1, e2, e3⟩ := List.mergeSort_cons (le := leD) leD_tot.trans leD_tot2 x xs
    have pw := List.pairwise_mergeSort (le := leD) leD_tot.trans leD_tot2 (x :: xs)
    rw [e1] at pw
    have hm : ∀ b, b ∈ l₁ ∨ b ∈ l₂ → b ∈ xs := fun b hb => by
      have : b ∈ xs.mergeSort leD := by rw [e2]; exact List.mem_append.mpr hb
      exact (List.mergeSort_perm xs leD).mem_iff.mp this
    have hx : ∀ b, b ∈ xs → mlt b x = PySem.W.dataLt (toPD b) (toPD x) := fun b hb =>
      mlt_pd 39 b x (List.all_eq_true.mp h.2 b hb) h.1 (ha b (List.mem_cons_of_mem _ hb) x (List.mem_cons_self ..))
    simp only [isort]
    rw [ih, e2, e1]
    refine ins_split (le := leD) l₁ l₂ (fun b hb => ?_) fun b hb => ?_
    · rw [hx b (hm b (.inl hb))]
      have := e3 b hb
      rw [leD_eq, Bool.not_not] at this
      exact this
    · rw [hx b (hm b (.inr hb))]
      have h4 : leD x b = true := by
        have := (List.pairwise_append.mp pw).2.1
        exact (List.pairwise_cons.mp this).1 b hb
      rw [leD_eq, Bool.not_eq_true'] at h4
      exact h4

/-! ### sorted(xs), xs a list or a tuple -/
section
variable {prog : Program} {w : World} {A : Around} {E : Value → Shared → Prop} {s : Shared} {β : Type} {RR : Value → β → Prop} {enc : β → PyData}
theorem sorted_seq {l : Addr} {vs : List Value} {bs : List β} {Tn : String} {o : Obj} {n : Nat} {Q : Value → Shared → Prop} (hT : Tn = "list" ∨ Tn = "tuple") (ho : s.heap.get? l = some o) (hc : o.cls = .type Tn) (hd : o.data = .seq vs.toArray n)
    (e : PySem.W.EachIs RR vs bs) (er : PySem.W.EachIs (fun v b => ∃ as, Reads s.heap v (enc b) as) vs bs) (hal : PySem.W.AllAlike (bs.map enc)) (hk : PySem.W.Sortable (bs.map enc)) (hL : bs.length ≤ sizeLine)
    (hu : ∀ b, b ∈ bs → A.units + 2 + (enc b).depth < cLine)
    (h : ∀ (h1 h' : Heap) (d : Addr) (out : List Value), out.length = bs.length → PySem.W.EachIs RR out (bs.mergeSort (PySem.W.dataLe false enc)) → (∀ b u, s.heap.get? b = some u → h1.get? b = some u) → d = h1.objs.size → (∀ b u, h1.get? b = some u → h'.get? b = some u) →
      (∃ n, h'.get? d = some (seqObj "list" out.toArray n)) → Q (.ref d) { s with heap := h' }) :
    wpAny (model prog w) A (call (.builtin "sorted") [.ref l]) Q E s := by
  have hV : vs.length ≤ sizeLine := by rw [e.length]; exact hL
  refine PySem.Calls.call_function_entry kind_sorted plain_sorted entry_sorted (args_sorted1 _) ?_
  unfold Builtin.«sorted»
  refine wpAny_bind (m := checkCount "sorted" 1 1 _) (wpAny_pure ?_)
  refine wpAny_bind (wpAny_collect_seq l hT ho hc hd (fun h1 k1 => ?_) (by simpa using hV))
  have ev : vs.toArray.toList = vs := by simp
  rw [ev]
  refine wpAny_bind (wpAny_newList ?_ hV)
  have hat : (h1.push (seqObj "list" vs.toArray 0)).get? h1.objs.size = some (seqObj "list" vs.toArray 0) := Heap.get?_push_size _ rfl
  have old : ∀ b u, h1.get? b = some u → (h1.push (seqObj "list" vs.toArray 0)).get? b = some u := fun b u q => Heap.get?_push_of_some _ q
  have er' : PySem.W.EachIs (fun v b => ∃ as, Reads (PySem.W.sortingHeap (h1.push (seqObj "list" vs.toArray 0)) h1.objs.size vs) v (enc b) as) vs bs :=
    er.mono fun _ _ ⟨as, r⟩ => ⟨as, PyProof.Rows.Reads.keeps (fun b u q => PySem.W.sortingHeap_old (Nat.ne_of_lt (Heap.lt_size (k1 _ _ q))) (old _ _ (k1 _ _ q))) r⟩
  refine wpAny_bind (wpAny_holding (wpAny_call_entry slot_list_sort ⟨_, hat, rfl⟩ entry_list_sort
    (PySem.W.list_sort_vals (s := { s with heap := h1.push (seqObj "list" vs.toArray 0) }) hat
      (PySem.W.SortsAt.data (PySem.W.each_map (R := fun v d => ∃ as, Reads (PySem.W.sortingHeap (h1.push (seqObj "list" vs.toArray 0)) h1.objs.size vs) v d as) enc er') hal hk (PySem.W.bound_map hu)) hV ⟨_, rfl, ?_⟩) (args_list_sort _)))
  refine wpAny_pure ⟨_, rfl, ?_⟩
  refine h h1 _ _ _ (by rw [PySem.W.sortVals_length false rfl]; exact e.length) (PySem.W.sortVals_data false e er' hal) k1 rfl (fun b u q => ?_) (sortedHeap_at hat)
  have hlt : b < h1.objs.size := Heap.lt_size q
  rw [sortedHeap_old (Nat.ne_of_lt hlt) (by rw [size_push']; exact Nat.lt_succ_of_lt hlt)]
  exact old b u q
end
/-! ### in the text -/
section
variable {X : Cx} {Z : Zt} {C : Ctx} {XE : XT} {a : PySem.Expr} {ma : E} {pos p : Pos} {σ : L2.St} {H : Hp} {R : Rn} {T : Layer}
def rSrt (Z : Zt) (C : Ctx) : List V → Hp → VK → Prop := fun vs H Q => ∃ v R T x xs, vs = [v] ∧ Sto Z R C.B T H ∧ Rp Z R x v ∧ seqOf C T x = some xs ∧ xs.length ≤ big ∧ (MV.lst xs).data = true ∧ allAlike xs = true ∧ srtOk xs = true ∧
  ∀ ws p, Rps Z R (isort xs) ws → H p = none → Q (.ref p) (upd H p (.lst ws))
theorem pd_map (xs : List MV) : toPDs xs = xs.map toPD := toPDs_map xs
theorem dall_each {K : PySem.W.Frag} {H : Hp} : ∀ (xs : List MV) (vs : List V) (us : List Value), DpAll K H vs (toPDs xs) → Vals vs us → Rps Z R xs vs → PySem.W.EachIs (fun (u : Value) (x : MV) => ∃ v, RelV v u ∧ Rp Z R x v ∧ Dp K H v (toPD x)) us xs
  | [], _, _, h, r, q => by
    simp only [Rps] at q
    subst q
    cases r
    exact .nil
  | x :: xs, _, _, h, r, q => by
    simp only [Rps] at q
    obtain ⟨v, vs, rfl, q1, q2⟩ := q
    simp only [toPDs] at h
    cases h with
    | cons h1 h2 =>
      cases r with
      | cons r1 r2 => exact .cons ⟨v, r1, q1, h1⟩ (dall_each xs vs _ h2 r2 q2)
theorem each_vals {K : PySem.W.Frag} {H : Hp} : ∀ {us : List Value} {xs : List MV}, PySem.W.EachIs (fun (u : Value) (x : MV) => ∃ v, RelV v u ∧ Rp Z R x v ∧ Dp K H v (toPD x)) us xs → ∃ vs, Vals vs us ∧ Rps Z R xs vs
  | _, _, .nil => ⟨[], .nil, Rps.nil⟩
  | _, _, .cons ⟨v, h1, h2, _⟩ t => by
    obtain ⟨vs, h3, h4⟩ := each_vals t
    exact ⟨v :: vs, .cons h1 h3, Rps.cons h2 h4⟩
theorem call_srt (hx : XOk X Z C) : CallR X (.builtin "sorted") (rSrt Z C) := by
  intro pins s σ H vs us Q I r h
  obtain ⟨v, R, T, x, xs, rfl, st, px, hs, hb, hd, ha, hk, q⟩ := h
  obtain ⟨u, rfl, ru⟩ := vals1 r
  obtain ⟨a, ws, rfl, h1, h2⟩ := seqOf_ok st px hs
  have hall : xs.all (dat 39) = true := by unfold MV.data dat at hd; exact hd
  have hal : ∀ y ∈ xs, ∀ z ∈ xs, alike y z = true := fun y hy z hz => by
    unfold allAlike at ha
    exact List.all_eq_true.mp (List.all_eq_true.mp ha y hy) z hz
  obtain rfl : u = Value.ref a := ru
  obtain ⟨its, Tn, o, n, hT, rv, ho, hc, hdt⟩ : ∃ (its : List Value) (Tn : String) (o : Obj) (n : Nat), (Tn = "list" ∨ Tn = "tuple") ∧ Vals ws its ∧ s.heap.get? a = some o ∧ o.cls = .type Tn ∧ o.data = .seq its.toArray n := by
    rcases h1 with h1 | h1
    · obtain ⟨its, rv, ⟨o, n, e1, e2, e3, e4⟩, _⟩ := I.list (.inl h1)
      exact ⟨its, _, o, n, .inl rfl, rv, e1, e2, e4⟩
    · obtain ⟨its, rv, ⟨o, e1, e2, n, e3⟩, _⟩ := I.tuple (hx.K ▸ h1)
      exact ⟨its, _, o, n, .inr rfl, rv, e1, e2, e3⟩
  have dd := Dps_of st 39 xs ws hall h2
  have e := dall_each xs ws its dd rv h2
  refine sorted_seq (enc := toPD) hT ho hc hdt e (e.mono fun u x ⟨v, g1, _, g3⟩ => Dp.reads I _ _ u (hx.K ▸ g3) g1) ?_ ?_ (Nat.le_trans hb big_line) (fun y hy => ?_) fun hp1 h' d out hl ho2 k1 hd1 k2 hn => ?_
  · intro d hd d' hd'
    obtain ⟨y, hy, rfl⟩ := List.mem_map.mp hd
    obtain ⟨z, hz, rfl⟩ := List.mem_map.mp hd'
    rw [← alike_pd 39 y z (List.all_eq_true.mp hall y hy) (List.all_eq_true.mp hall z hz)]
    exact hal y hy z hz
  · unfold srtOk at hk
    rw [Bool.or_eq_true] at hk
    rcases hk with hk | hk
    · refine .inl fun d hd => ?_
      obtain ⟨y, hy, rfl⟩ := List.mem_map.mp hd
      have := List.all_eq_true.mp hk y hy
      cases y with
      | tup ys =>
        cases ys with
        | nil => simp at this
        | cons z zs => exact ⟨toPD z, toPDs zs, by simp only [toPD, toPDs]⟩
      | _ => simp at this
    · refine .inr fun d hd => ?_
      obtain ⟨y, hy, rfl⟩ := List.mem_map.mp hd
      have h3 := List.all_eq_true.mp hk y hy
      have h4 := List.all_eq_true.mp hall y hy
      cases y <;> simp [dat] at h3 h4 <;> simp [toPD]
  · have := depth_pd 39 y (List.all_eq_true.mp hall y hy)
    have hu := hx.room.un
    omega
  · obtain ⟨vs', g1, g2⟩ := each_vals ho2
    rw [← isort_ms xs hall hal] at g2
    subst hd1
    have f1 : H hp1.objs.size = none := (I.hok.kept k1).fresh (Nat.le_refl _)
    have f2 : s.heap.get? hp1.objs.size = none := by
      cases q : s.heap.get? hp1.objs.size with
      | none => rfl
      | some u => exact absurd (Heap.lt_size (k1 _ _ q)) (Nat.lt_irrefl _)
    obtain ⟨n', hn⟩ := hn
    refine ⟨.ref _, upd H hp1.objs.size (.lst vs'), I.laidN (t' := s.toks) (fun b u q => k2 b u (k1 b u q)) f2 f1 ⟨?_, out, n', g1, hn⟩, rfl, q vs' _ g2 f1⟩
    rw [g1.length, hl]
    exact Nat.le_trans hb big_line
theorem l_sorted (hx : XOk X Z C) (hg : Gl X "sorted") (hm : X.mg "sorted" = none) (ha : PE X a (tE Z C XE ma)) (hs : starEach [a] X.env = (false, eval a X.env) :: starEach [] X.env := by rfl) : PE X (.Call (.Name "sorted" p) [a] [] pos) (tLD Z C XE (.sorted ma)) :=
  PEimp (pe_callB (call_srt hx) hg hm boot_sorted (pa_cons ha pa_nil hs) (by decide) (by decide) hs) fun σ H Q ⟨R, δ, T, fr, st, q⟩ => by
    simp only [evL] at q
    refine oneL fr st q fun x T1 R1 H1 vx e1 f1 s1 p1 k1 => ?_
    split at k1
    · rename_i xs h1
      obtain ⟨⟨g1, g2, g3, g4⟩, k1⟩ := k1.sized
      exact ⟨vx, R1, T1, x, xs, rfl, s1, p1, h1, g1, g2, g3, g4, fun ws p hw hp => k1.new s1 hw hp⟩
    · exact k1.elim
end
end Mini
end
section
set_option linter.all false
set_option maxRecDepth 100000
set_option maxHeartbeats 2000000
namespace Mini
open PySem PySem.Spec PyProof.Rows L2

/-! ### isinstance -/
def tyNm : BTy → String
  | .int => "int" | .bool => "bool" | .str => "str" | .list => "list" | .tuple => "tuple" | .dict => "dict"
/-- a value's type, by its name; none: an instance -/
def nmOf (C : Ctx) (T : Layer) : MV → Option String
  | .non => some "NoneType"
  | .int _ => some "int"
  | .bl _ => some "bool"
  | .str _ => some "str"
  | .tup _ => some "tuple"
  | .lst _ => some "list"
  | .dct _ _ => some "dict"
  | .ref l k => match C.get T l k with
    | some (.lst _) => some "list"
    | some (.dct _ _) => some "dict"
    | some (.hold _ _) => some "dict"
    | _ => none
  | _ => none
def tyNames : List String := ["NoneType", "int", "bool", "str", "tuple", "list", "dict"]
def allTy : List BTy := [.int, .bool, .str, .list, .tuple, .dict]
/-- what the classes must be for isinstance -/
structure IsOk (Z : Zt) : Prop where
  cls : ∀ (c : Nat) (cd : Cls), Z.P.cls[c]? = some cd → L2.Cls Z.K (Z.G.cls c)
  at_ : ∀ (c : Nat) (cd : Cls), Z.P.cls[c]? = some cd → PySem.W.findIn Z.K (.ref (Z.G.cls c)) "__class__" = some (some (.builtin "object.__class__"))
  gt : PySem.W.specialIn Z.K (.builtin "object.__class__") "__get__" = some (some (.builtin "getset_descriptor.__get__"))
  tk : PySem.W.takesIn Z.K (.builtin "object.__class__") = some true
  obj : ∀ (c : Nat) (cd : Cls), Z.P.cls[c]? = some cd → PySem.W.mroIn Z.K (Z.G.cls c) (.type "object") = some true
  ct : ∀ (c : Nat) (cd : Cls) (t : BTy), Z.P.cls[c]? = some cd → PySem.W.kitOne Z.K (.ref (Z.G.cls c)) (.type (tyNm t)) = some false
  tc : ∀ (c : Nat) (cd : Cls) (t : String), Z.P.cls[c]? = some cd → t ∈ tyNames → PySem.W.kitOne Z.K (.type t) (.ref (Z.G.cls c)) = some false
  cc : ∀ (c d : Nat) (cd cd' : Cls), Z.P.cls[c]? = some cd → Z.P.cls[d]? = some cd' → PySem.W.kitOne Z.K (.ref (Z.G.cls c)) (.ref (Z.G.cls d)) = some (c == d)
def tyIs (a b : String) : Bool := a == b || (a == "bool" && b == "int")
theorem ty_ty (a : String) (ha : a ∈ tyNames) (t : BTy) : kitB a (tyNm t) = some (tyIs a (tyNm t)) := by
  simp only [tyNames, List.mem_cons, List.mem_nil_iff, or_false] at ha
  rcases ha with rfl | rfl | rfl | rfl | rfl | rfl | rfl <;> cases t <;> decide +kernel
section
variable {X : Cx} {Z : Zt} {C : Ctx} {XE : XT} {σ : L2.St} {H : Hp} {R : Rn} {T : Layer} {pins : List (Addr × Obj)} {s : Shared}
/-- the value's type as the library's isinstance asks for it -/
def KitV (K : PySem.W.Frag) (u : Value) (h : Heap) (t : Value) : Prop := ∃ P : Heap → Prop, PySem.W.KitX K u t P ∧ P h ∧ u ≠ .builtin "__main__.__loader__#opaque"
theorem AtO.get {a : Addr} {o : Obj} (I : Inv X pins σ H s) (h : H a = some (AtO a o)) : s.heap.get? a = some o := (I.hok a _ h).1
theorem mv_kit (hx : XOk X Z C) (I : Inv X pins σ H s) (st : Sto Z R C.B T H) {x : MV} {v : V} {u : Value} (ru : RelV v u) (p : Rp Z R x v) {t : String} (h : nmOf C T x = some t) : KitV X.K u s.heap (.type t) := by
  have lstC : ∀ xs, lstOf C T x = some xs → KitV X.K u s.heap (.type "list") := fun xs hl => by
    obtain ⟨a, vs, rfl, h1, _⟩ := lstOf_ok st p hl
    obtain rfl : u = Value.ref a := ru
    obtain ⟨its, _, ⟨o, n, e, c, _⟩, _⟩ := I.list (.inl h1)
    exact ⟨_, PySem.W.kitx_list, ⟨o, e, c⟩, fun z => nomatch z⟩
  have dctC : ∀ ks vs kv vv o a, v = .ref a → H a = some (AtO a o) → DctO Z a o ks vs kv vv → KitV X.K u s.heap (.type "dict") := fun ks vs kv vv o a hv ha hd => by
    subst hv
    obtain rfl : u = Value.ref a := ru
    exact ⟨_, PySem.W.kitx_dict, ⟨o, AtO.get I ha, hd.ex.1⟩, fun z => nomatch z⟩
  cases x with
  | undef => cases h
  | non =>
    cases h
    simp only [Rp] at p; subst p
    cases (show u = Value.none from ru)
    exact ⟨_, PySem.W.kitx_none, True.intro, fun z => nomatch z⟩
  | bl b =>
    cases h
    simp only [Rp] at p; subst p
    cases (show u = Value.bool b from ru)
    exact ⟨_, PySem.W.kitx_bool, True.intro, fun z => nomatch z⟩
  | int i =>
    cases h
    simp only [Rp] at p; subst p
    obtain ⟨t, q⟩ := (show ∃ t, u = Value.int i t from ru)
    cases q
    exact ⟨_, PySem.W.kitx_int, True.intro, fun z => nomatch z⟩
  | str z =>
    cases h
    simp only [Rp] at p; subst p
    obtain ⟨t, q⟩ := (show ∃ t, u = Value.str _ t from ru)
    cases q
    exact ⟨_, PySem.W.kitx_str, True.intro, fun z => nomatch z⟩
  | tup xs =>
    cases h
    simp only [Rp] at p
    obtain ⟨a, vs, rfl, h1, _⟩ := p
    obtain rfl : u = Value.ref a := ru
    obtain ⟨its, _, ⟨o, e, c, _⟩, _⟩ := I.tuple (hx.K ▸ st.sqT h1)
    exact ⟨_, PySem.W.kitx_tuple, ⟨o, e, c⟩, fun z => nomatch z⟩
  | lst xs => cases h; exact lstC xs rfl
  | dct ks vs =>
    cases h
    simp only [Rp] at p
    obtain ⟨a, o, kv, vv, h1, h2, _, _, h5⟩ := p
    exact dctC _ _ _ _ o a h1 (st.sub _ _ h2) h5
  | ins c fs => cases h
  | ref l k =>
    simp only [nmOf] at h
    split at h
    · rename_i xs hc
      cases h
      exact lstC xs (by simp only [lstOf, hc])
    · rename_i ks vs hc
      cases h
      simp only [Rp] at p
      obtain ⟨_, o, kv, vv, g1, _, _, g2⟩ := st.cellAt hc
      exact dctC _ _ _ _ o _ p.1 g1 g2
    · rename_i ks vs hc
      cases h
      simp only [Rp] at p
      obtain ⟨_, o, kv, vv, _, g1, _, _, g2⟩ := st.cellAt hc
      exact dctC _ _ _ _ o _ p.1 g1 g2
    · cases h
theorem ins_kit (hx : XOk X Z C) (ok : IsOk Z) (I : Inv X pins σ H s) (st : Sto Z R C.B T H) {x : MV} {v : V} {u : Value} (ru : RelV v u) (p : Rp Z R x v) {c : Nat} {fs : List MV} (h : insOf C T x = some (c, fs)) : (∃ cd, Z.P.cls[c]? = some cd) ∧ KitV X.K u s.heap (.ref (Z.G.cls c)) := by
  obtain ⟨a, dx, gs, ws, rfl, h1, _, h3⟩ := insOf_ok st p h
  obtain ⟨cd, hcd, _⟩ := h3.flds
  obtain rfl : u = Value.ref a := ru
  obtain ⟨mA, O, _⟩ := ins_get I.hok h1
  obtain ⟨od, J, _⟩ := O.look
  have cl := ok.cls c cd hcd
  refine ⟨⟨cd, hcd⟩, ?_⟩
  rw [hx.K]
  exact ⟨_, PySem.W.kitx_own (cl.get _) cl.hd (ok.at_ c cd hcd) ok.gt ok.tk (ok.obj c cd hcd), J, fun z => nomatch z⟩
/-- the kit's answer is Mini's -/
theorem ins_ty {x : MV} {c : Nat} {fs : List MV} (h : insOf C T x = some (c, fs)) (t : BTy) : isTy x C T t = false := by
  cases x <;> simp only [insOf] at h <;> try cases h
  · rfl
  · split at h
    · rename_i c' ys hc
      simp only [isTy, hc]
    · cases h
theorem nm_ty {x : MV} {n : String} (h : nmOf C T x = some n) (t : BTy) : isTy x C T t = tyIs n (tyNm t) ∧ insOf C T x = none ∧ n ∈ tyNames := by
  cases x <;> simp only [nmOf] at h <;> try cases h
  all_goals try (refine ⟨?_, rfl, by decide⟩; cases t <;> simp only [isTy] <;> decide +kernel)
  split at h <;> rename_i hc <;> cases h <;> (refine ⟨?_, by simp only [insOf, hc], by decide⟩; cases t <;> simp only [isTy, hc] <;> decide +kernel)
theorem nm_or {x : MV} {v : V} (st : Sto Z R C.B T H) (p : Rp Z R x v) (hu : x ≠ .undef) : (∃ n, nmOf C T x = some n) ∨ ∃ c fs, insOf C T x = some (c, fs) := by
  cases x with
  | undef => exact absurd rfl hu
  | ins c fs => exact .inr ⟨c, fs, rfl⟩
  | ref l k =>
    simp only [Rp] at p
    have h2 := p.2
    rw [st.n] at h2
    obtain ⟨c, hc⟩ := getB_some h2
    have hc : C.get T l k = some c := hc
    cases c with
    | lst _ => exact .inl ⟨"list", by simp only [nmOf, hc]⟩
    | dct _ _ => exact .inl ⟨"dict", by simp only [nmOf, hc]⟩
    | hold _ _ => exact .inl ⟨"dict", by simp only [nmOf, hc]⟩
    | ins c fs => exact .inr ⟨c, fs, by simp only [insOf, hc]⟩
  | non => exact .inl ⟨_, rfl⟩
  | bl _ => exact .inl ⟨_, rfl⟩
  | int _ => exact .inl ⟨_, rfl⟩
  | str _ => exact .inl ⟨_, rfl⟩
  | tup _ => exact .inl ⟨_, rfl⟩
  | lst _ => exact .inl ⟨_, rfl⟩
  | dct _ _ => exact .inl ⟨_, rfl⟩
def tyV1 (Z : Zt) : BTy ⊕ Nat → Value
  | .inl t => .type (tyNm t)
  | .inr c => .ref (Z.G.cls c)
def clV (Z : Zt) : BTy ⊕ Nat → V
  | .inl t => .ty (tyNm t)
  | .inr c => .ref (Z.G.cls c)
theorem clV_ok (Z : Zt) : ∀ t : BTy ⊕ Nat, ClsV (clV Z t) (tyV1 Z t)
  | .inl _ => .ty _
  | .inr _ => .own _
def isOne (C : Ctx) (T : Layer) (x : MV) : BTy ⊕ Nat → Bool
  | .inl t => isTy x C T t
  | .inr c => match insOf C T x with
    | some (d, _) => d == c
    | none => false
theorem one_kit (hx : XOk X Z C) (ok : IsOk Z) (I : Inv X pins σ H s) (st : Sto Z R C.B T H) {x : MV} {v : V} {u : Value} (ru : RelV v u) (p : Rp Z R x v) (hu : x ≠ .undef) :
    ∃ t, KitV X.K u s.heap t ∧ ∀ q : BTy ⊕ Nat, (∀ c, q = .inr c → ∃ cd, Z.P.cls[c]? = some cd) → PySem.W.kitOne X.K t (tyV1 Z q) = some (isOne C T x q) := by
  rcases nm_or st p hu with ⟨n, hn⟩ | ⟨c, fs, hi⟩
  · refine ⟨_, mv_kit hx I st ru p hn, fun q hq => ?_⟩
    cases q with
    | inl t =>
      obtain ⟨h1, _, h3⟩ := nm_ty hn t
      show PySem.W.kitOne X.K (.type n) (.type (tyNm t)) = some (isTy x C T t)
      rw [h1]
      exact kit_ty (ty_ty n h3 t)
    | inr c =>
      obtain ⟨_, h2, h3⟩ := nm_ty hn .int
      obtain ⟨cd, hc⟩ := hq c rfl
      show PySem.W.kitOne X.K (.type n) (.ref (Z.G.cls c)) = some (isOne C T x (.inr c))
      rw [hx.K, ok.tc c cd n hc h3]
      simp only [isOne, h2]
  · obtain ⟨⟨cd, hcd⟩, hk⟩ := ins_kit hx ok I st ru p hi
    refine ⟨_, hk, fun q hq => ?_⟩
    cases q with
    | inl t =>
      show PySem.W.kitOne X.K (.ref (Z.G.cls c)) (.type (tyNm t)) = some (isTy x C T t)
      rw [hx.K, ok.ct c cd t hcd, ins_ty hi]
    | inr d =>
      obtain ⟨cd', hc'⟩ := hq d rfl
      show PySem.W.kitOne X.K (.ref (Z.G.cls c)) (.ref (Z.G.cls d)) = some (isOne C T x (.inr d))
      rw [hx.K, ok.cc c d cd cd' hcd hc']
      simp only [isOne, hi]
theorem any_kit {K : PySem.W.Frag} {t : Value} {x : MV} : ∀ (qs : List (BTy ⊕ Nat)), (∀ q ∈ qs, PySem.W.kitOne K t (tyV1 Z q) = some (isOne C T x q)) → PySem.W.kitAny K t (qs.map (tyV1 Z)) = some (qs.any (isOne C T x))
  | [], _ => rfl
  | q :: qs, h => by
    have h1 := h q (List.mem_cons_self ..)
    have h2 := any_kit qs fun p hp => h p (List.mem_cons_of_mem _ hp)
    simp only [List.map_cons, List.any_cons]
    unfold PySem.W.kitAny
    rw [h1]
    cases isOne C T x q with
    | true => rfl
    | false => simpa using h2
theorem isi_cs (x : MV) : ∀ cs : List Nat, (cs.map Sum.inr : List (BTy ⊕ Nat)).any (isOne C T x) = (match insOf C T x with
    | some (c, _) => cs.contains c
    | none => false)
  | [] => by simp; split <;> rfl
  | c :: cs => by
    rw [List.map_cons, List.any_cons, isi_cs x cs]
    cases hi : insOf C T x with
    | none => simp [isOne, hi]
    | some p => simp only [isOne, hi, List.contains_cons]
theorem isi_any {x : MV} {ts : List BTy} {cs : List Nat} {k : Bool} (h : isiM C T x ts cs = some k) : x ≠ .undef ∧ k = (ts.map Sum.inl ++ cs.map Sum.inr).any (isOne C T x) := by
  have e1 : (ts.map Sum.inl : List (BTy ⊕ Nat)).any (isOne C T x) = ts.any (isTy x C T) := by
    rw [List.any_map]
    rfl
  rw [List.any_append, e1, isi_cs]
  cases x <;> simp only [isiM] at h <;> first | (cases h; done) | exact ⟨by simp, (Option.some.inj h).symm⟩
end
section
variable {X : Cx} {Z : Zt} {C : Ctx} {XE : XT} {a b : PySem.Expr} {ma : E} {pos p : Pos} {σ : L2.St} {H : Hp} {R : Rn} {T : Layer}
def rIs1 (Z : Zt) (C : Ctx) (q : BTy ⊕ Nat) : List V → Hp → VK → Prop := fun vs H Q => ∃ v R T x, vs = [v, clV Z q] ∧ Sto Z R C.B T H ∧ Rp Z R x v ∧ x ≠ .undef ∧ Q (.bl (isOne C T x q)) H
theorem call_is1 (hx : XOk X Z C) (ok : IsOk Z) {q : BTy ⊕ Nat} (hq : ∀ c, q = .inr c → ∃ cd, Z.P.cls[c]? = some cd) : CallR X (.builtin "isinstance") (rIs1 Z C q) := by
  intro pins s σ H vs us Q I r h
  obtain ⟨v, R, T, x, rfl, st, px, hu, k⟩ := h
  obtain ⟨u1, u2, rfl, r1, r2⟩ := vals2 r
  have e2 := (clV_ok Z q).eq r2
  subst e2
  obtain ⟨t, ⟨P, h1, h2, h3⟩, h4⟩ := one_kit hx ok I st r1 px hu
  exact PySem.W.kia_one h1 I.kIn h2 (h4 q hq) h3 fun tk => ⟨.bl _, H, I.tok tk, rfl, k⟩
def rIsT (Z : Zt) (C : Ctx) (qs : List (BTy ⊕ Nat)) : List V → Hp → VK → Prop := fun vs H Q => ∃ v tp R T x, vs = [v, .ref tp] ∧ H tp = some (.tup (qs.map (clV Z))) ∧ Sto Z R C.B T H ∧ Rp Z R x v ∧ x ≠ .undef ∧ Q (.bl (qs.any (isOne C T x))) H
theorem cls_pair (Z : Zt) : ∀ qs : List (BTy ⊕ Nat), Paired ClsV (qs.map (clV Z)) (qs.map (tyV1 Z))
  | [] => .nil
  | q :: qs => .cons (clV_ok Z q) (cls_pair Z qs)
theorem call_isT (hx : XOk X Z C) (ok : IsOk Z) {qs : List (BTy ⊕ Nat)} (hq : ∀ c, .inr c ∈ qs → ∃ cd, Z.P.cls[c]? = some cd) : CallR X (.builtin "isinstance") (rIsT Z C qs) := by
  intro pins s σ H vs us Q I r h
  obtain ⟨v, tp, R, T, x, rfl, hT, st, px, hu, k⟩ := h
  obtain ⟨u1, u2, rfl, r1, r2⟩ := vals2 r
  cases (show u2 = Value.ref tp from r2)
  obtain ⟨t, ⟨P, h1, h2, h3⟩, h4⟩ := one_kit hx ok I st r1 px hu
  obtain ⟨_, its, rv, o, g1, g2, n, g3⟩ := I.hok tp _ hT
  have e3 := ClsV.all (cls_pair Z qs) rv
  subst e3
  obtain ⟨oc, od, dt, sl⟩ := o
  simp only at g2 g3
  subst g2 g3
  exact PySem.W.kia_tup h1 I.kIn h2 g1 (any_kit qs fun q hm => h4 q fun c e => hq c (e ▸ hm)) h3 fun tk => ⟨.bl _, H, I.tok tk, rfl, k⟩
/-- isinstance(x, T) -/
theorem s_is1 {q : BTy ⊕ Nat} {ts : List BTy} {cs : List Nat} (hx : XOk X Z C) (ok : IsOk Z) (hl : ts.map Sum.inl ++ cs.map Sum.inr = [q]) (hq : ∀ c, q = .inr c → ∃ cd, Z.P.cls[c]? = some cd) (hg : Gl X "isinstance") (hm : X.mg "isinstance" = none)
    (ha : PE X a (tE Z C XE ma)) (hb : PE X b (tC (clV Z q))) (hs : starEach [a, b] X.env = (false, eval a X.env) :: starEach [b] X.env := by rfl) (hs2 : starEach [b] X.env = (false, eval b X.env) :: starEach [] X.env := by rfl) (hpl : (backTo pos (starEach [b] X.env)).any (·.1) = false := by rfl) :
    PE X (.Call (.Name "isinstance" p) [a, b] [] pos) (tE Z C XE (.isi ma ts cs)) :=
  PEimp (pe_callB (call_is1 hx ok hq) hg hm boot_isinstance (pa_cons ha (pa_cons hb pa_nil hs2) hs) (by decide) (by decide) hs hpl) fun σ H Q ⟨R, δ, T, fr, st, k⟩ => by
    simp only [ev] at k
    refine one fr st k fun x T1 R1 H1 vx e1 f1 s1 p1 k1 => ?_
    obtain ⟨b, h1, k2⟩ := k1.optB
    obtain ⟨h2, rfl⟩ := isi_any h1
    rw [hl] at k2
    refine ⟨vx, R1, T1, x, rfl, s1, p1, h2, k2.ok s1 _ ?_⟩
    simp only [List.any_cons, List.any_nil, Bool.or_false]
    exact rp_bl
/-- isinstance(x, (T, U)) -/
theorem s_isT {b1 b2 : PySem.Expr} {q1 q2 : BTy ⊕ Nat} {ts : List BTy} {cs : List Nat} {x1} (hx : XOk X Z C) (ok : IsOk Z) (hl : ts.map Sum.inl ++ cs.map Sum.inr = [q1, q2]) (hq : ∀ c, .inr c ∈ [q1, q2] → ∃ cd, Z.P.cls[c]? = some cd) (hg : Gl X "isinstance") (hm : X.mg "isinstance" = none)
    (ha : PE X a (tE Z C XE ma)) (hb1 : PE X b1 (tC (clV Z q1))) (hb2 : PE X b2 (tC (clV Z q2))) (hs : starEach [a, .Tuple [b1, b2] x1 p] X.env = (false, eval a X.env) :: starEach [.Tuple [b1, b2] x1 p] X.env := by rfl)
    (hs2 : starEach [.Tuple [b1, b2] x1 p] X.env = (false, eval (.Tuple [b1, b2] x1 p) X.env) :: starEach [] X.env := by rfl) (hpl : (backTo pos (starEach [.Tuple [b1, b2] x1 p] X.env)).any (·.1) = false := by rfl)
    (ht1 : starEach [b1, b2] X.env = (false, eval b1 X.env) :: starEach [b2] X.env := by rfl) (ht2 : starEach [b2] X.env = (false, eval b2 X.env) :: starEach [] X.env := by rfl) {pn : Pos} :
    PE X (.Call (.Name "isinstance" pn) [a, .Tuple [b1, b2] x1 p] [] pos) (tE Z C XE (.isi ma ts cs)) :=
  PEimp (pe_callB (call_isT hx ok hq) hg hm boot_isinstance (pa_cons ha (pa_cons (pe_tup (pa_cons hb1 (pa_cons hb2 pa_nil ht2) ht1)) pa_nil hs2) hs) (by decide) (by decide) hs hpl) fun σ H Q ⟨R, δ, T, fr, st, k⟩ => by
    simp only [ev] at k
    refine one fr st k fun x T1 R1 H1 vx e1 f1 s1 p1 k1 => ?_
    obtain ⟨b, h1, k2⟩ := k1.optB
    obtain ⟨h2, rfl⟩ := isi_any h1
    rw [hl] at k2
    refine ⟨by rw [sizeLine_eq]; simp, fun tp htp => ?_⟩
    obtain ⟨l2, s2, e2⟩ := Loose.new (L := C.B.length) s1 htp (.tup [clV Z q1, clV Z q2])
    exact ⟨vx, tp, R1, T1, x, rfl, upd_same, s2, p1, h2, (k2.mono e2).ok s2 _ rp_bl⟩
end
end Mini
end
section
set_option linter.all false
set_option maxRecDepth 100000
set_option maxHeartbeats 2000000
namespace Mini
open PySem PySem.Spec PyProof.Rows L2

/-! ### dict displays -/
abbrev RPs (Z : Zt) (R : Rn) : List (MV × MV) → List (V × V) → Prop := Paired fun p q => Rp Z R p.1 q.1 ∧ Rp Z R p.2 q.2
theorem RPs.mono {Z : Zt} {R R' : Rn} (e : Le R R') : ∀ {ps : List (MV × MV)} {vs : List (V × V)}, RPs Z R ps vs → RPs Z R' ps vs
  | _, _, .nil => .nil
  | _, _, .cons h t => .cons ⟨Rp.mono e _ _ h.1, Rp.mono e _ _ h.2⟩ (RPs.mono e t)
section
variable {X : Cx} {Z : Zt} {C : Ctx} {XE : XT} {σ : L2.St} {H H0 : Hp} {R R0 : Rn} {T : Layer} {pins : List (Addr × Obj)} {s : Shared}
theorem storeAll_M {E : Value → Shared → Prop} {D : Addr} {L : Nat} (hx : XOk X Z C) (hD : H0 D = none) {ks vs : List MV} {Q : PUnit → Shared → Prop} : ∀ (us : List (Value × Value)) (qs : List (V × V)) (ps : List (MV × MV)) (ks0 vs0 : List MV) (o : Obj) (kv vv : List V) (s : Shared) (H : Hp),
    Inv X pins σ H s → Loose R H D (AtO D o) → Sto Z R C.B T H → Ext L R0 R H0 H → VV qs us → RPs Z R ps qs → Rps Z R ks0 kv → Rps Z R vs0 vv → DctO Z D o ks0 vs0 kv vv → mkD ps ks0 vs0 = some (ks, vs) → ks0.length + ps.length ≤ 1000000 →
    (∀ s' H' o' kv' vv', Inv X pins σ H' s' → Loose R H' D (AtO D o') → Sto Z R C.B T H' → Ext L R0 R H0 H' → Rps Z R ks kv' → Rps Z R vs vv' → DctO Z D o' ks vs kv' vv' → Q PUnit.unit s') →
    wpAny (model X.prog X.w) X.A (forIn us PUnit.unit fun (x : Value × Value) (_ : PUnit) => (do dictSet D x.1 x.2; pure (ForInStep.yield PUnit.unit) : Sem (ForInStep PUnit))) Q E s := by
  intro us qs ps
  induction ps generalizing us qs with
  | nil =>
    intro ks0 vs0 o kv vv s H I l st e ru rp r1 r2 dd hm _ hQ
    cases rp
    cases ru
    rw [List.forIn_nil]
    simp only [mkD, Option.some.injEq, Prod.mk.injEq] at hm
    obtain ⟨rfl, rfl⟩ := hm
    exact wpAny_pure (hQ s H o kv vv I l st e r1 r2 dd)
  | cons p ps ih =>
    intro ks0 vs0 o kv vv s H I l st e ru rp r1 r2 dd hm hz hQ
    obtain ⟨x, y⟩ := p
    cases rp with
    | cons b bs =>
      cases ru with
      | cons a as =>
        rw [List.forIn_cons]
        simp only [mkD] at hm
        rw [List.length_cons] at hz
        split at hm
        · rename_i hk
          refine wpAny_bind (wpAny_bind (dct_dset (Room.units hx.room) I hx.prog hx.w hx.K st b.1 a.1 b.2 a.2 l.at_ r1 r2 dd hk (by omega) fun o' kv' vv' s' I' dd' r1' r2' => wpAny_pure ?_))
          obtain ⟨l', st'⟩ := l.put st (AtO D o')
          have hl := putKs_len x ks0
          exact ih _ _ _ _ o' kv' vv' s' _ I' l' st' (e.put hD) as bs r1' r2' dd' hm (by have := putKs_len x ks0; show (putKs x ks0).length + ps.length ≤ 1000000; omega) hQ
        · cases hm
/-- the pairs, one after the other -/
def trK (Z : Zt) (C : Ctx) (XE : XT) : KVs → List (TE × TE)
  | .nil => []
  | .cons k v r => (tE Z C XE k, tE Z C XE v) :: trK Z C XE r
def KVs.len : KVs → Nat
  | .nil => 0
  | .cons _ _ r => r.len + 1
theorem evKV_len {C : Ctx} : ∀ (ps : KVs) (δ : List MV) (T : Layer) (xs : List (MV × MV)) (T' : Layer), evKV C ps δ T = .ok xs T' → xs.length = ps.len
  | .nil, δ, T, xs, T', h => by simp only [evKV] at h; cases h; rfl
  | .cons k v r, δ, T, xs, T', h => by
    simp only [evKV] at h
    obtain ⟨x, T1, h1, h⟩ := bindOk h
    obtain ⟨y, T2, h2, h⟩ := bindOk h
    obtain ⟨zs, T3, h3, h⟩ := bindOk h
    cases h
    simp only [List.length_cons, KVs.len, evKV_len r _ _ _ _ h3]
theorem pairs_read {r : List (V × V) → Hp → Prop} : ∀ (kvs : KVs) (R : Rn) (δ : List MV) (T : Layer) (H : Hp) (K : List (MV × MV) → Layer → Rn → Hp → Prop), Frm Z R δ σ → Sto Z R C.B T H → Out Z C.B XE σ (evKV C kvs δ T) R H K →
    (∀ ps T1 R1 H1 qs, Ext C.B.length R R1 H H1 → Sto Z R1 C.B T1 H1 → RPs Z R1 ps qs → ps.length = kvs.len → K ps T1 R1 H1 → r qs H1) → tPairs (trK Z C XE kvs) σ H r
  | .nil, R, δ, T, H, K, fr, st, q, h => by
    simp only [evKV] at q
    exact h [] T R H [] (Ext.refl st) st .nil rfl (q.ok st)
  | .cons k v kvs, R, δ, T, H, K, fr, st, q, h => by
    simp only [evKV] at q
    refine one fr st q fun x T1 R1 H1 vx e1 f1 s1 p1 k1 => ?_
    refine one f1 s1 k1 fun y T2 R2 H2 vy e2 f2 s2 p2 k2 => ?_
    refine pairs_read kvs R2 δ T2 H2 _ f2 s2 k2.bind.sto fun ps T3 R3 H3 qs e3 s3 p3 hl ⟨_, _, k3⟩ => ?_
    exact h ((x, y) :: ps) T3 R3 H3 ((vx, vy) :: qs) ((e1.trans e2).trans e3) s3 (.cons ⟨Rp.mono (e2.le.trans e3.le) _ _ p1, Rp.mono e3.le _ _ p2⟩ p3) (by simp [KVs.len, hl]) (k3.ok s3)
/-- pairs of the text -/
structure PKs (X : Cx) (Z : Zt) (C : Ctx) (XE : XT) (keys : List (Option PySem.Expr)) (values : List PySem.Expr) (kvs : KVs) : Prop where
  run : ∀ pos, PPs X pos keys values (trK Z C XE kvs)
  all : keys.all (·.isSome) = true
  len : keys.length = values.length
  n : keys.length = kvs.len
theorem ks0_nil : PKs X Z C XE [] [] .nil := ⟨fun _ => pps_nil, rfl, rfl, rfl⟩
theorem ks0_cons {k v : PySem.Expr} {ks : List (Option PySem.Expr)} {vs : List PySem.Expr} {mk mv : E} {kvs : KVs} (hk : PE X k (tE Z C XE mk)) (hv : PE X v (tE Z C XE mv)) (r : PKs X Z C XE ks vs kvs) : PKs X Z C XE (some k :: ks) (v :: vs) (.cons mk mv kvs) :=
  ⟨fun pos => pps_cons hk hv (r.run pos), by simpa using r.all, by simp [r.len], by simp [KVs.len, r.n]⟩
theorem OutL.bindK {α : Type} {B : List Layer} {R1 : Rn} {H1 : Hp} {r : Res α} {f : α → Layer → Res LD} {Q : VK} (h : OutL Z B XE σ (r.bind f) R H Q) (e : Ext B.length R R1 H H1) : Out Z B XE σ r R1 H1 fun a T' _ _ => OutL Z B XE σ (f a T') R H Q := by
  cases r with
  | ok a T => exact fun _ _ _ _ => h
  | exc c p T => exact fun H' R' e' s' => h H' R' (e.trans e') s'
  | stuck => exact h
theorem l_ddisp {keys : List (Option PySem.Expr)} {values : List PySem.Expr} {kvs : KVs} {pos : Pos} (hx : XOk X Z C) (h : PKs X Z C XE keys values kvs) (h0 : keys ≠ [] := by simp) (h15 : keys.length ≤ 15 := by decide) : PE X (.Dict keys values pos) (tLD Z C XE (.ddisp kvs)) := by
  refine ⟨fun pins s σ H Q I ⟨R, δ, T, fr, st, q⟩ => ?_⟩
  simp only [evL] at q
  have hn := I.hok.fresh (Nat.le_refl s.heap.objs.size)
  have hns : (s.heap.objs.size == sysModules) = false := beq_eq_false_iff_ne.mpr fun z => absurd I.big (by rw [z]; exact Nat.lt_irrefl _)
  obtain ⟨l1, s1, e1⟩ := Loose.new (L := C.B.length) st hn (AtO s.heap.objs.size emptyD)
  have I1 : Inv X pins σ (upd H s.heap.objs.size (AtO s.heap.objs.size emptyD)) { s with heap := s.heap.push { cls := .type "dict", data := .dict #[] } } :=
    I.laid (t' := s.toks) (fun _ _ q => Heap.get?_push_of_some _ q) (Nat.le_refl _) ⟨Heap.get?_push_size _ rfl, ⟨_, Heap.get?_push_size _ rfl⟩, fun h1 h2 e k => k _ e⟩
  have hpl : (pairTrees keys values X.env pos).length ≤ 15 := by rw [pairTrees_length keys values X.env pos h.all h.len]; exact h15
  have hp0 : pairTrees keys values X.env pos ≠ [] := fun z => by
    have := pairTrees_length keys values X.env pos h.all h.len
    rw [z] at this
    exact h0 (List.length_eq_zero_iff.mp this.symm)
  rw [arm_eval_Dict, zip_pairTrees keys values X.env pos h.all h.len, dictDisplay_pairs _ hp0 (by omega)]
  refine wpAny_bind (wpAny_standAt (wpAny_bind ?_))
  unfold subDict
  refine wpAny_bind (wpAny_alloc ?_)
  refine wpAny_bind (wpAny_holding ?_)
  rw [if_pos hpl]
  refine wpAny_bind (wpAny_mono ((h.run pos).run pins _ σ _ (fun qs H2 => ∃ ps T2 R2, Ext C.B.length R R2 (upd H s.heap.objs.size (AtO s.heap.objs.size emptyD)) H2 ∧ Sto Z R2 C.B T2 H2 ∧ RPs Z R2 ps qs ∧ ps.length = kvs.len ∧ OutL Z C.B XE σ (match mkD ps [] [] with
      | some (ks, vs) => .ok (.dct ks vs) T2
      | none => .stuck) R H Q) I1 ?_) (fun us s2 hz => ?_) fun _ _ e => e)
  · refine pairs_read kvs R δ T _ _ fr s1 (q.bindK e1) fun ps T2 R2 H2 qs e2 s2 p2 hl k2 => ⟨ps, T2, R2, e2, s2, p2, hl, k2⟩
  · obtain ⟨qs, H2, I2, rel, ps, T2, R2, e2, st2, p2, hl, k2⟩ := hz
    refine wpAny_holding ?_
    split at k2
    · rename_i ks vs hm
      refine wpAny_bind (storeAll_M (L := C.B.length) hx hn us qs ps [] [] emptyD [] [] s2 H2 I2 (l1.ext e2) st2 (e1.trans e2) rel p2 Rps.nil Rps.nil (dctO_nil hns) hm (by rw [hl, ← h.n, List.length_nil]; omega) fun s3 H3 o3 kv3 vv3 I3 l3 st3 e3 r1 r2 d3 => ?_)
      exact wpAny_pure (wpAny_pure (wpAny_pure ⟨.ref _, H3, I3, rfl, k2 _ _ H3 R2 l3 st3 e3 hn ⟨o3, kv3, vv3, rfl, r1, r2, d3⟩⟩))
    · exact k2.elim
end
end Mini
end
section
set_option linter.all false
set_option maxRecDepth 100000
set_option maxHeartbeats 2000000
namespace Mini
open PySem PySem.Spec PyProof.Rows L2
section
variable {X : Cx} {Z : Zt} {C : Ctx} {XE : XT} {σ : L2.St} {H : Hp} {R : Rn} {T : Layer} {e a b c : PySem.Expr} {ma mb mc : E} {pos p : Pos} {pins : List (Addr × Obj)} {s : Shared} {tg : PySem.Expr}
/-! ### range with a step -/
theorem dlv_rangeS {lo c : Int} {n : Nat} : Dlv Z C R H [] (rangeS lo c n) (Itc lo c n) := by
  intro i R2 H2 T2 e s2 hs
  unfold rangeS
  refine ⟨fun hi => ?_, fun y hy => ?_⟩
  · rw [List.length_map, List.length_range] at hi; exact hi
  · rw [List.getElem?_map] at hy
    have hi : i < n := by
      cases q : (List.range n)[i]? with
      | none => rw [q] at hy; cases hy
      | some j => have := (List.getElem?_eq_some_iff.mp q).1; rwa [List.length_range] at this
    rw [List.getElem?_range hi] at hy
    cases hy
    exact ⟨hi, fun w H3 ⟨h5, h6⟩ => by subst h5; subst h6; exact ⟨R2, Ext.refl s2, s2, rp_int⟩⟩
theorem rs_eq (i j k : Int) : Builtin.Range.rangeSize i j k = (if k > 0 then (if i < j then (j - i - 1) / k + 1 else 0) else (if i > j then (i - j - 1) / (-k) + 1 else 0)) := rfl
theorem rs_bd {i j k : Int} (h1 : i < 1000000000) (h2 : -1000000000 < i) (h3 : j < 1000000000) (h4 : -1000000000 < j) (h0 : k ≠ 0) : 0 ≤ Builtin.Range.rangeSize i j k ∧ Builtin.Range.rangeSize i j k ≤ 4000000000 := by
  rw [rs_eq]
  split
  · rename_i hk
    split
    · rename_i hij
      have e1 : 0 ≤ (j - i - 1) / k := Int.ediv_nonneg (by omega) (by omega)
      have e2 : (j - i - 1) / k ≤ j - i - 1 := Int.ediv_le_self _ (by omega)
      omega
    · omega
  · rename_i hk
    split
    · rename_i hij
      have e1 : 0 ≤ (i - j - 1) / (-k) := Int.ediv_nonneg (by omega) (by omega)
      have e2 : (i - j - 1) / (-k) ≤ i - j - 1 := Int.ediv_le_self _ (by omega)
      omega
    · omega
theorem small_ok {i j k : Int} (h1 : i < 1000000000) (h2 : -1000000000 < i) (h3 : j < 1000000000) (h4 : -1000000000 < j) (h5 : k < 1000000) (h6 : -1000000 < k) (h0 : k ≠ 0) : RgC i j k (rangeN i j k) := by
  obtain ⟨b1, b2⟩ := rs_bd h1 h2 h3 h4 h0
  refine ⟨h0, by omega, ?_, ?_⟩
  · unfold Builtin.Range.small
    simp only [Builtin.Range.rangeFitsLong, Bool.and_eq_true, Bool.or_eq_true, decide_eq_true_eq, beq_iff_eq]
    refine ⟨⟨⟨⟨⟨by omega, by omega⟩, by omega, by omega⟩, by omega, by omega⟩, by omega, by omega⟩, .inr ?_⟩
    split <;> simp only [Bool.and_eq_true, decide_eq_true_eq] <;> omega
  · have e : (rangeN i j k : Int) = (Builtin.Range.rangeSize i j k).toNat := rfl
    rw [e]
    omega
theorem i_range3 (hg : Gl X "range") (hm : X.mg "range" = none) (ha : PE X a (tE Z C XE ma)) (hb : PE X b (tE Z C XE mb)) (hc : PE X c (tE Z C XE mc)) (hs : starEach [a, b, c] X.env = (false, eval a X.env) :: starEach [b, c] X.env := by rfl) (hs2 : starEach [b, c] X.env = (false, eval b X.env) :: starEach [c] X.env := by rfl)
    (hs3 : starEach [c] X.env = (false, eval c X.env) :: starEach [] X.env := by rfl) (hpl : (backTo pos (starEach [b, c] X.env)).any (·.1) = false := by rfl) : PI X tg (.Call (.Name "range" p) [a, b, c] [] pos) (tIt Z C XE (.range3 ma mb mc)) := by
  refine ⟨fun pins s σ H Rr I ⟨R, δ, T, fr, st, q⟩ => (pi_range3 hg hm (pa_cons ha (pa_cons hb (pa_cons hc pa_nil hs3) hs2) hs) hs hpl).run pins s σ H Rr I ?_⟩
  simp only [evIt] at q
  refine one fr st q fun x T1 R1 H1 vx e1 f1 s1 px k1 => ?_
  refine one f1 s1 k1 fun y T2 R2 H2 vy e2 f2 s2 py k2 => ?_
  refine one f2 s2 k2 fun z T3 R3 H3 vz e3 f3 s3 pz k3 => ?_
  split at k3
  · rename_i i j k
    obtain ⟨⟨h1, h2, h3, h4, h5, h6, h0⟩, k3⟩ := k3.sized
    simp only [Rp] at px py pz
    subst px; subst py; subst pz
    exact ⟨i, j, k, _, rfl, small_ok h1 h2 h3 h4 h5 h6 h0, k3.ok s3 _ trivial fun R' hR => by cases hR; exact dlv_rangeS⟩
  · exact k3.elim

/-! ### len(x), x an instance -/
def rLenO (C : Addr) (sp : Sp) (E : XK) : List V → Hp → VK → Prop := fun vs H Q => ∃ a dx fs, vs = [.ref a] ∧ H a = some (.ins C dx fs) ∧ sp [.ref a] H (fun v H' => ∃ i : Int, v = .int i ∧ (0 ≤ i ∧ i < 1000000000) ∧ Q (.int i) H') E
theorem call_lenO {CX : CXT} {k : Nat} {D f : Addr} {fd : FuncData} {ps : List Str} {sp : Sp} {E : XK} (F : FnOk X.prog X.w X.K X.mg X.base CX k f fd ps sp) (hr : Room (k + 1) X.A)
    (hm : PySem.W.findIn X.K (.ref D) "__len__" = some (some (.ref f))) (hf : PySem.W.isFn X.K (.ref f) = true) (hb : Binds X.K fd ps []) (hx : Passes CX X E) : CallR X (.builtin "len") (rLenO D sp E) := by
  intro pins s σ H vs us Q I r h
  obtain ⟨a, dx, fs, rfl, ha, q⟩ := h
  obtain ⟨u, rfl, ru⟩ := vals1 r
  obtain rfl : u = Value.ref a := ru
  obtain ⟨mA, J, _⟩ := ins_get I.hok ha
  obtain ⟨od, J, _⟩ := J.look
  obtain ⟨m, hF⟩ := I.fr
  have hl := F.len _ _ _ _ q
  refine PySem.W.len_K hF I.ok.mod.kin J hm hf (wpAny_call (codeAny_mono (F.run X.A.in1 X.stack s H ⟨[.ref a], []⟩ [.ref a] [.ref a] _ E hr.in1 (I.env0.in1) (by
    have := hb s [.ref a] I.kIn (by simpa using hl)
    simpa using this) (.cons rfl .nil) q) fun r s' hq => ?_))
  cases r with
  | error er => exact hx pins σ H s er s' I hq
  | ok fl =>
    cases fl with
    | ret w =>
      obtain ⟨z, H', I', rz, i, rfl, ⟨h0, h1⟩, hQ⟩ := I.after hq
      obtain ⟨t, rfl⟩ := (show ∃ t, w = Value.int i t from rz)
      exact ⟨⟨h0, by omega⟩, .int i, H', I'.tok _, ⟨_, rfl⟩, hQ⟩
    | next => exact False.elim hq
    | brk => exact False.elim hq
    | cont => exact False.elim hq
theorem b_lenO {m c0 : Nat} {W d fi k : Nat} {mfd : Fn} {fa : Addr} {fd : FuncData} {ps : List Str} (hx : XOk X Z C) (M : MethOk Z X.K m "__len__" c0 fi fa) (hX : ∀ σ c p T R H, XE σ c p T R H → False) (hcall : C.call = callN Z.P W d) (hf : Z.P.fns[fi]? = some mfd) (hkd : isDef mfd.kind = true)
    (F : FnOk X.prog X.w X.K X.mg X.base CX0 k fa fd ps (spD Z W d fi 1)) (hr : Room (k + 1) X.A) (hb : Binds X.K fd ps []) (hg : Gl X "len") (hm : X.mg "len" = none) (ha : PE X a (tE Z C XE ma)) (hs : starEach [a] X.env = (false, eval a X.env) :: starEach [] X.env := by rfl) :
    PE X (.Call (.Name "len" p) [a] [] pos) (tE Z C XE (.own m (.cons ma .nil))) :=
  PEimp (pe_callB (call_lenO (E := E0) F hr M.at_.at_ M.at_.fn hb pass0) hg hm boot_len (pa_cons ha pa_nil hs) (by decide) (by decide) hs) fun σ H Q ⟨R, δ, T, fr, st, q⟩ => by
    have e : ev C (.own m (.cons ma .nil)) δ T = (ev C ma δ T).bind fun x T1 => (match insOf C T1 x with
      | some (c, _) => match C.P.cls[c]? with
        | some cd => match cd.meths.lookup m with
          | some g => (C.call false g [x] C.B T1).bind fun v T2 => match v with
              | .int i => if 0 ≤ i ∧ i < 1000000000 then .ok v T2 else .stuck
              | _ => .stuck
          | none => .stuck
        | none => .stuck
      | none => .stuck) := by
      simp only [ev, evs, bind_ok]
      congr 1
    rw [e] at q
    refine one fr st q fun x T1 R1 H1 vx e1 f1 s1 p1 k1 => ?_
    split at k1
    · rename_i c fs hi
      split at k1
      · rename_i cd hc
        rw [hx.P] at hc
        split at k1
        · rename_i g hg'
          obtain ⟨rfl, rfl⟩ := M.one c cd g hc hg'
          obtain ⟨a, dx, gs, ws, rfl, g1, g2, g3⟩ := insOf_ok s1 p1 hi
          rw [hcall] at k1
          refine ⟨a, dx, gs, rfl, g1, call_defD (E := E0) (Q := fun v H' => ∃ i : Int, v = .int i ∧ (0 ≤ i ∧ i < 1000000000) ∧ Q (.int i) H') hX hf hkd s1 (Rps.cons p1 Rps.nil) rfl (k1.bind.sto.imp fun v T2 R2 H2 _ ⟨e2, s2, k2⟩ w pw => ?_)⟩
          cases v with
          | int i =>
            obtain ⟨hi, k2⟩ := Out.sized k2
            simp only [Rp] at pw
            exact ⟨i, pw, hi, k2.ok s2 _ rp_int⟩
          | _ => exact False.elim k2
        · exact k1.elim
      · exact k1.elim
    · exact k1.elim
/-! ### small things for the printed proofs -/
theorem XOk.blk {s : Shared} {H : Hp} {sc : Scope} {ce : Env} {fp : List Addr} (h : XOk X Z C) : XOk (X.blk s H sc ce fp) Z C := ⟨h.prog, h.K, h.w, h.P, h.nd, h.calm, h.room⟩
theorem noX : ∀ (σ : L2.St) (c : Nat) (p : List MV) (T : Layer) (R : Rn) (H : Hp), nX σ c p T R H → False := fun _ _ _ _ _ _ h => h
theorem noAX : ∀ (σ : L2.St) (c : Nat) (p : List MV) (T : Layer) (R : Rn) (H : Hp), anyX nX σ c p T R H → False := fun _ _ _ _ _ _ h => h []
theorem k_int {i : Int} {j pos} : PE X (.Constant (.int i) j pos) (tE Z C XE (.const (.int i))) := s_const pe_int fun _ => rp_int
theorem k_bl {v : Bool} {j pos} : PE X (.Constant (.bool v) j pos) (tE Z C XE (.const (.bl v))) := s_const pe_bl fun _ => rp_bl
theorem k_non {j pos} : PE X (.Constant .none j pos) (tE Z C XE (.const .non)) := s_const pe_non fun _ => rp_non
theorem k_str {x : Str} {y : List Nat} {j pos} (h : x = ⟨y.toArray⟩ := by rfl) : PE X (.Constant (.str x) j pos) (tE Z C XE (.const (.str y))) := by
  subst h
  exact s_const pe_str fun _ => rp_str
theorem k_gint {x : Str} {i : Int} {t : Tok} {pos} (hg : Gl X x) (hm : X.mg x = some (.int i t)) (hd : (x == ("__debug__" : Str)) = false := by decide) : PE X (.Name x pos) (tE Z C XE (.const (.int i))) := s_const (pe_glob (v := .int i) hg hm ⟨t, rfl⟩ hd) fun _ => rp_int
end
end Mini
namespace Mini
open PySem PySem.Spec PyProof.Rows L2
section
variable {X : Cx} {Z : Zt} {C : Ctx} {XE : XT} {e : PySem.Expr} {t : Tg}
theorem Out.nA {B : List Layer} {σ : L2.St} {R : Rn} {H : Hp} {α : Type} {r : Res α} {K : α → Layer → Rn → Hp → Prop} (h : Out Z B nX σ r R H K) : Out Z B (anyX nX) σ r R H K := by
  cases r with
  | ok a T => exact h
  | exc c p T => exact fun H' R' e s _ => (h H' R' e s).elim
  | stuck => exact h
theorem g_nA (h : PG X e (tG Z C (anyX nX) t)) : PG X e (tG Z C nX t) := PGimp h fun v σ H Q ⟨R, δ, T, x, fr, st, p, q⟩ => ⟨R, δ, T, x, fr, st, p, q.nA⟩
/-- the parameters as they come -/
theorem par_at (args : List MV) : ∀ (k : Nat), params ((List.range' k (args.length - k)).map .a) args = args.drop k := by
  intro k
  unfold params
  rw [List.map_map]
  apply List.ext_getElem?
  intro i
  rw [List.getElem?_map, List.getElem?_drop]
  by_cases hi : i < args.length - k
  · rw [List.getElem?_range' hi]
    have : k + i < args.length := by omega
    simp [List.getD_eq_getElem?_getD, List.getElem?_eq_getElem this]
  · rw [List.getElem?_eq_none (by simpa using hi), List.getElem?_eq_none (by omega)]
    rfl
theorem parId (n : Nat) : ParOk Z ((List.range n).map .a) n n [] := fun R args vs r h => by
  subst h
  have e : params ((List.range args.length).map AM.a) args = args := by
    have := par_at args 0
    rw [List.range_eq_range']
    simpa using this
  rw [e, List.append_nil]
  exact ⟨r, rfl⟩
end
/-- a comprehension's scope -/
def blkB (N : List Str) (sc scope : Scope) (own : List (Str × Nat)) : Bool :=
  (match scope.kind with
    | .function => true
    | _ => false) &&
  ((scope.names.all fun y => decide (scope.names.lookup y.1 = some y.2)) && ((own.all fun p => decide (N[p.2]? = some p.1)) &&
  ((scope.names.all fun y => !decide (y.2 = .free) || (decide (sc.names.lookup y.1 = some .cell) || decide (sc.names.lookup y.1 = some .free))) &&
    scope.names.all fun y => !(decide (y.2 = .local) || decide (y.2 = .cell)) || (decide (y.1 ∈ own.map (·.1)) || decide (y.1 ∉ N)))))
theorem blk_ok {N : List Str} {sc scope : Scope} {own : List (Str × Nat)} (h : blkB N sc scope own = true) : BlkOk N sc scope own := by
  unfold blkB at h
  simp only [Bool.and_eq_true, List.all_eq_true, decide_eq_true_eq, Bool.or_eq_true, Bool.not_eq_true', decide_eq_false_iff_not, Bool.or_eq_false_iff] at h
  obtain ⟨h1, h2, h3, h4, h5⟩ := h
  refine ⟨?_, h2, h3, fun y hy e => ?_, fun y hy e => ?_⟩
  · split at h1
    · assumption
    · cases h1
  · rcases h4 y hy with h | h
    · exact absurd e h
    · exact h
  · rcases h5 y hy with h | h
    · rcases e with e | e
      · exact absurd e h.1
      · exact absurd e h.2
    · exact h
/-- the function object at an address -/
def fdAt (K : PySem.W.Frag) (a : Addr) : FuncData := match K.lookup a with
  | some ⟨_, _, .func fd, _⟩ => fd
  | _ => default
theorem fd_eq {K : PySem.W.Frag} {x q : Str} {pa : Arguments} {b : List Stmt} {sc : Scope} {dvs : List V} {kws : List (Str × V)} {a : Addr} (h : ∃ fd, FunD K x q pa b sc dvs kws a fd) : FunD K x q pa b sc dvs kws a (fdAt K a) := by
  obtain ⟨fd, F⟩ := h
  obtain ⟨oc, od, dV, kV, doc, pm, an, cdv, ct, osl, e, l, r⟩ := F.ex
  have : fdAt K a = fd := by unfold fdAt; rw [l]
  rw [this]; exact F
end Mini
namespace Mini
open PySem PySem.Spec PyProof.Rows L2
theorem s_makeN {X : Cx} {Z : Zt} {C : Ctx} {XE : XT} {e : PySem.Expr} {es : List PySem.Expr} {mes mks : Es} {p pos : Pos} {W d fi k n c nf nn mm : Nat} {cd : Cls} {mfd : Fn} {fa : Addr} {fd : FuncData} {ps ks : List Str} {x : Str} {am : List AM} {kp : Bool} {kws : List Keyword} {g : List Value → List Value → List Value} {gV : List V → List V → List V}
    (hX : ∀ σ c p T R H, XE σ c p T R H → False) (hcall : C.call = callN Z.P W d) (hf : Z.P.fns[fi]? = some mfd) (hkd : initOf mfd.kind = some (c, nf)) (hc : Z.P.cls[c]? = some cd) (hnf : cd.flds.length = nf)
    (hpar : ∀ (R : Rn) (args kargs : List MV) (vs zs : List V), Rps Z R args vs → Rps Z R kargs zs → args.length = nn → kargs.length = mm → ∃ ws, Rps Z R (params am (args ++ kargs)) ws ∧ (∀ x, gV (x :: vs) zs = x :: ws) ∧ (params am (args ++ kargs)).length = n)
    (M : Mk X.K (Z.G.cls c) fa) (F : FnOk X.prog X.w X.K X.mg X.base CX0 k fa fd ps (spD Z W d fi (n + 1))) (hr : Room (k + 1) X.A) (hg : Gl X x) (hm : X.mg x = some (.ref (Z.G.cls c))) (hb : KBn X.K fd ps (nn + 1) ks g gV) (ha : PA X (e :: es) (tEs Z C XE mes)) (hkw : PK X kws (tKs Z C XE mks)) (hks' : mm = ks.length)
    (h1 : mes.len = nn := by rfl) (h2 : mks.len = mm := by rfl)
    (hall : (backToKw pos (keywordEach kws X.env)).all (·.1.isSome) = true := by rfl) (hks : (backToKw pos (keywordEach kws X.env)).filterMap (·.1) = ks := by rfl)
    (hdb : (x == ("__debug__" : Str)) = false := by decide) (he : starEach (e :: es) X.env = (false, eval e X.env) :: starEach es X.env := by rfl)
    (hpl : ((backTo pos (starEach (e :: es) X.env)).any (·.1) || (backToKw pos (keywordEach kws X.env)).any (·.1.isNone)) = false := by rfl) :
    PE X (.Call (.Name x p) (e :: es) kws pos) (tE Z C XE (.call kp fi am (mes.app mks))) := by
  subst h1 h2
  exact s_makeK hX hcall hf hkd hc hnf hpar M F hr hg hm hb ha hkw hks' hall hks hdb he hpl
end Mini
end
section
set_option linter.all false
set_option maxRecDepth 100000
set_option maxHeartbeats 2000000
/-! The head's facts: the kit's own, property getters, empty tuples, no list in the written part. -/
namespace Mini
open PySem PySem.Spec PyProof.Rows L2
abbrev Fr := PySem.W.Frag
/-- a property's object, its getter -/
def prA (x f : Str) (K : Fr) : Addr := He.ma K (He.ga K x) f
def gtA (x f : Str) (K : Fr) : Addr := match PySem.W.recIn K (prA x f K) "property" with
  | some (.ref g :: _) => g
  | _ => 0
def prB (x f : Str) (K : Fr) : Bool :=
  decide (PySem.W.findIn K (.ref (He.ga K x)) f = some (some (.ref (prA x f K)))) &&
  (decide (PySem.W.specialIn K (.ref (prA x f K)) "__get__" = some (some (.builtin "property.__get__"))) &&
  (decide (PySem.W.takesIn K (.ref (prA x f K)) = some true) &&
  (match PySem.W.recIn K (prA x f K) "property" with
    | some (.ref _ :: _) => true
    | _ => false)))
theorem prB_ok {x f : Str} {K : Fr} (h : prB x f K = true) : PropOf K (He.ga K x) f (prA x f K) (gtA x f K) := by
  unfold prB at h
  rw [Bool.and_eq_true, Bool.and_eq_true, Bool.and_eq_true] at h
  obtain ⟨h1, h2, h3, h4⟩ := h
  refine ⟨of_decide_eq_true h1, of_decide_eq_true h2, of_decide_eq_true h3, ?_⟩
  unfold gtA
  split at h4
  · rename_i g r e
    rw [e]
    exact ⟨r, rfl⟩
  · cases h4
/-- an object that is an empty tuple -/
def nilB (a : Addr) (K : Fr) : Bool := match K.lookup a with
  | some ⟨.type c, _, .seq its _, _⟩ => decide (c = "tuple") && its.isEmpty
  | _ => false
theorem nilB_ok {a : Addr} {K : Fr} (h : nilB a K = true) (H : Hp) : SqT K H a [] := by
  unfold nilB at h
  split at h
  · rename_i c d its n sl e
    rw [Bool.and_eq_true] at h
    obtain ⟨h1, h2⟩ := h
    have h3 := of_decide_eq_true h1
    subst h3
    rw [Array.isEmpty_iff] at h2
    subst h2
    exact .inr ⟨_, #[], n, e, rfl, rfl, by simp, .nil⟩
  · cases h
/-- the value of a keyword-only default -/
def kwA (p : Str × Option Str) (x : Str) (K : Fr) : Addr := match K.lookup (He.fAd K p) with
  | some ⟨_, _, .func fd, _⟩ => (match fd.kwdefaults with
    | .ref D => (match PySem.W.nsIn K D x with
      | some (some (.ref b)) => b
      | _ => 0)
    | _ => 0)
  | _ => 0
/-- no list stands in the written part -/
def noLst (K : Fr) : Bool := K.all fun p => !(p.2.cls == .type "list")
theorem noLst_ok {K : Fr} (h : noLst K = true) {a : Addr} {o : Obj} (e : K.lookup a = some o) : o.cls ≠ .type "list" := fun z => by
  have hm : ∃ b, (b, o) ∈ K := by
    clear h z
    induction K with
    | nil => cases e
    | cons p r ih =>
      obtain ⟨b, u⟩ := p
      rw [List.lookup_cons] at e
      split at e
      · cases e; exact ⟨b, List.mem_cons_self ..⟩
      · obtain ⟨b', h⟩ := ih e
        exact ⟨b', List.mem_cons_of_mem _ h⟩
  obtain ⟨b, hm⟩ := hm
  have := List.all_eq_true.mp h _ hm
  rw [z] at this
  exact absurd this (by decide)
theorem noLst_sq {K : Fr} (h : noLst K = true) {H : Hp} {a : Addr} {vs : List V} (s : SqL K H a vs) : Rd H a (.lst vs) := by
  rcases s with s | ⟨o, its, n, e, c, _⟩
  · exact s
  · exact absurd c (noLst_ok h e)
/-- one more def, found at an address -/
structure DefA where
  adr : Fr → Addr
  name : Str
  qual : Str
  params : Arguments
  body : List Stmt
  scope : Scope
def fnAt (K : Fr) (a : Addr) : He.FnW := match K.lookup a with
  | some ⟨_, _, .func d, _⟩ => some (d.name, d.qualname, d.params, d.body, d.scope, d.globals, d.closure, d.builtins)
  | _ => none
def DefA.val (d : DefA) : He.FnW := some (d.name, d.qual, d.params, .stmts d.body, d.scope, mainGlobals, [], builtinsNs)
def DefA.ok (K : Fr) (d : DefA) : Bool := PySem.W.keepIn K (.ref (d.adr K)) && (match K.lookup (d.adr K) with
  | some ⟨_, _, .func f, _⟩ => PySem.W.codeIn K f.code d.qual && (match f.defaults with
    | .none => true
    | _ => false)
  | _ => false)
theorem DefA.funD {K : Fr} {d : DefA} (e : fnAt K (d.adr K) = d.val) (c : d.ok K = true) : ∃ fd, FunD K d.name d.qual d.params d.body d.scope [] [] (d.adr K) fd := by
  unfold DefA.ok at c
  rw [Bool.and_eq_true] at c
  obtain ⟨kp, c2⟩ := c
  unfold fnAt at e
  split at c2
  · rename_i oc od f osl q
    rw [q] at e
    obtain ⟨n1, n2, n3, n4, n5, n6, n7, n8, n9, n10, n11, n12, n13, n14, n15⟩ := f
    simp only [DefA.val, Option.some.injEq, Prod.mk.injEq] at e
    obtain ⟨h1, h2, h3, h4, h5, h6, h7, h8⟩ := e
    subst h1 h2 h3 h4 h5 h6 h7 h8
    rw [Bool.and_eq_true] at c2
    obtain ⟨k1, k2⟩ := c2
    cases n8 with
    | none => exact ⟨_, ⟨oc, od, .none, n9, n10, n11, n12, n13, n14, osl, rfl, q, k1, .inl ⟨rfl, rfl⟩, .inl rfl⟩, kp⟩
    | _ => simp at k2
  · cases c2
abbrev AlM : Type := He.AlD × Bool × List He.FnW
structure Lk where
  n : Nat
  want : List Str
  fa : List He.Fa
  fn : List He.DefD
  ck : List (Fr → Bool)
  gt : List DefA
def Lk.obs (l : Lk) (K : Fr) : AlM := (He.obsD l.fa l.fn K, (l.ck.all fun f => f K) && (l.gt.all fun d => d.ok K), l.gt.map fun d => fnAt K (d.adr K))
def Lk.val (l : Lk) : AlM := (He.valD l.fn, true, l.gt.map DefA.val)
/-- the objects that one names, a class itself apart -/
def refsM (a : Addr) (o : Obj) : List Addr := match o.data with
  | .cls cd => [cd.ns]
  | .dict es _ => es.toList.flatMap fun e => He.refV e.val
  | .func fd => He.refV fd.code ++ (He.refV fd.defaults ++ He.refV fd.kwdefaults)
  | .fields vs => match o.cls with
    | .type "property" => (vs.toList.take 1).flatMap He.refV
    | _ => []
  | _ => []
/-- the module's names that are wanted -/
def startM (g : Addr → Option Obj) (want : List Str) : List Addr := match g mainGlobals with
  | some ⟨_, _, .dict es _, _⟩ => es.toList.flatMap fun e => if want.any (fun x => e.key.isStr x) then He.refV e.val else []
  | _ => []
def layM (g : Addr → Option Obj) (as : List Addr) : List Addr := as.flatMap fun a => match g a with
  | some o => refsM a o
  | none => []
def laysM (g : Addr → Option Obj) : Nat → List Addr → List Addr
  | 0, as => as
  | n + 1, as => as ++ laysM g n (layM g as)
def asM (g : Addr → Option Obj) (want : List Str) (n : Nat) : List Addr := mainGlobals :: laysM g n (startM g want)
def Lk.obsG (l : Lk) (g : Addr → Option Obj) : AlM := l.obs (He.frG g (asM g l.want l.n))
def Lk.Says (l : Lk) (K : Fr) : Prop := l.obs K = l.val
def Lk.hook (l : Lk) : PySem.W.Hook where
  α := AlM
  obs := fun s => l.obsG s.heap.get?
  val := fun _ => l.val
  says := fun _ h => ∃ K : Fr, K.In h ∧ l.Says K
  of := fun _ _ e => ⟨_, He.frG_in, e⟩
  keeps := fun _ _ _ ⟨K, hK, c⟩ k => ⟨K, hK.keeps k, c⟩
theorem Lk.obs_eq {l : Lk} {g : Addr → Option Obj} {s : Shared} (h : ∀ a, g a = s.heap.get? a) : l.obsG g = l.hook.obs s := by
  have e : g = s.heap.get? := funext h
  subst e; rfl
section
variable {l : Lk} {K : Fr}
theorem Lk.Says.kit (c : l.Says K) : He.SaysD l.fa l.fn K := congrArg (fun z : AlM => z.1) c
theorem Lk.Says.ck (c : l.Says K) (i : Nat) {f : Fr → Bool} (h : l.ck[i]? = some f := by rfl) : f K = true := by
  have c1 : ((l.ck.all fun f => f K) && (l.gt.all fun d => d.ok K)) = true := congrArg (fun z : AlM => z.2.1) c
  rw [Bool.and_eq_true] at c1
  exact List.all_eq_true.mp c1.1 f (List.mem_of_getElem? h)
theorem Lk.Says.gt (c : l.Says K) (i : Nat) {d : DefA} (h : l.gt[i]? = some d := by rfl) : ∃ fd, FunD K d.name d.qual d.params d.body d.scope [] [] (d.adr K) fd := by
  have c1 : ((l.ck.all fun f => f K) && (l.gt.all fun d => d.ok K)) = true := congrArg (fun z : AlM => z.2.1) c
  rw [Bool.and_eq_true] at c1
  have c2 : (l.gt.map fun d => fnAt K (d.adr K)) = l.gt.map DefA.val := congrArg (fun z : AlM => z.2.2) c
  have c3 : (l.gt.map fun d => fnAt K (d.adr K))[i]? = (l.gt.map DefA.val)[i]? := by rw [c2]
  rw [List.getElem?_map, List.getElem?_map, h] at c3
  exact DefA.funD (Option.some.inj c3) (List.all_eq_true.mp c1.2 d (List.mem_of_getElem? h))
end
end Mini
end
section
set_option linter.all false
set_option maxRecDepth 100000
set_option maxHeartbeats 2000000
/-! What the printed proofs of a law lean on. -/
namespace Mini
open PySem PySem.Spec PyProof.Rows L2
/-- isinstance's facts -/
def isoB (cs : List Str) (K : PySem.W.Frag) : Bool :=
  (decide (PySem.W.specialIn K (.builtin "object.__class__") "__get__" = some (some (.builtin "getset_descriptor.__get__"))) && decide (PySem.W.takesIn K (.builtin "object.__class__") = some true)) &&
  cs.all fun x => (decide (PySem.W.findIn K (.ref (He.ga K x)) "__class__" = some (some (.builtin "object.__class__"))) && decide (PySem.W.mroIn K (He.ga K x) (.type "object") = some true)) &&
    ((allTy.all fun t => decide (PySem.W.kitOne K (.ref (He.ga K x)) (.type (tyNm t)) = some false)) && ((tyNames.all fun t => decide (PySem.W.kitOne K (.type t) (.ref (He.ga K x)) = some false)) &&
      cs.all fun y => decide (PySem.W.kitOne K (.ref (He.ga K x)) (.ref (He.ga K y)) = some (decide (x = y)))))
structure FnT where
  adr : PySem.W.Frag → Addr
  ps : List Str
structure Law where
  pw : Program
  lk : Lk
  prog : Prog
  tbl : List FnT
  cls : List Str
  nms : List Str
@[reducible] def Law.Z (L : Law) (w : World) (K : PySem.W.Frag) : Zt := ⟨L.pw, K, w, ⟨fun c => He.ga K (L.cls.getD c ""), fun n => L.nms.getD n ""⟩, L.prog⟩
@[reducible] def WW : Nat := 100000
def Law.All (L : Law) (K : PySem.W.Frag) (mg : Str → Option Value) (base : Heap) (w : World) (d : Nat) : Prop := ∀ (i : Nat) (e : FnT), L.tbl[i]? = some e → FnOk L.pw w K mg base CX0 (2 * d + 1) (e.adr K) (fdAt K (e.adr K)) e.ps (spD (L.Z w K) WW d i e.ps.length)
/-- the head's facts -/
structure Tp (L : Law) (K : PySem.W.Frag) (mg : Str → Option Value) : Prop where
  says : L.lk.Says K
  heap : ∃ h : Heap, K.In h ∧ h.Ns mainGlobals mg
section
variable {L : Law} {K : PySem.W.Frag} {mg : Str → Option Value} {base : Heap} {w : World} {d : Nat}
theorem Tp.glo (t : Tp L K mg) (i : Nat) {x : Str} (h : L.lk.fa[i]? = some (.glo x) := by rfl) : mg x = some (.ref (He.ga K x)) := by
  obtain ⟨hp, X, G⟩ := t.heap
  exact He.glo_ok X G (t.says.kit.fact i h)
theorem Tp.free (t : Tp L K mg) (i : Nat) {x : Str} (h : L.lk.fa[i]? = some (.free x) := by rfl) : mg x = none := by
  obtain ⟨hp, X, G⟩ := t.heap
  exact He.free_ok X G (t.says.kit.fact i h)
theorem Tp.int (t : Tp L K mg) (i : Nat) {x : Str} {n : Int} (h : L.lk.fa[i]? = some (.int x n) := by rfl) : ∃ tk, mg x = some (.int n tk) := by
  obtain ⟨hp, X, G⟩ := t.heap
  exact He.int_ok X G (t.says.kit.fact i h)
theorem Tp.cls (t : Tp L K mg) (i : Nat) {x : Str} (h : L.lk.fa[i]? = some (.cls x) := by rfl) : L2.Cls K (He.ga K x) := He.cls_ok (t.says.kit.fact i h)
theorem Tp.mkr (t : Tp L K mg) (i : Nat) {x : Str} (h : L.lk.fa[i]? = some (.mkr x) := by rfl) : Mk K (He.ga K x) (He.ma K (He.ga K x) "__init__") := He.mkr_ok (t.says.kit.fact i h)
theorem Tp.meth (t : Tp L K mg) (i : Nat) {x m : Str} (h : L.lk.fa[i]? = some (.meth x m) := by rfl) : Meth K (He.ga K x) m (He.ma K (He.ga K x) m) := He.meth_ok (t.says.kit.fact i h)
theorem Tp.noat (t : Tp L K mg) (i : Nat) {x f : Str} (h : L.lk.fa[i]? = some (.noat x f) := by rfl) : NoAttr K (He.ga K x) f := He.noat_ok (t.says.kit.fact i h)
theorem Tp.prop (t : Tp L K mg) (i : Nat) {x f : Str} (h : L.lk.ck[i]? = some (prB x f) := by rfl) : PropOf K (He.ga K x) f (prA x f K) (gtA x f K) := prB_ok (t.says.ck i h)
theorem Tp.nilT (t : Tp L K mg) (i : Nat) {a : PySem.W.Frag → Addr} (h : L.lk.ck[i]? = some (fun K => nilB (a K) K) := by rfl) {R : Rn} : Rp (L.Z w K) R (.tup []) (.ref (a K)) := rp_tup (nilB_ok (t.says.ck (f := fun K => nilB (a K) K) i h) R.F) Rps.nil
theorem Tp.def_ (t : Tp L K mg) (i : Nat) {dd : He.DefD} (h : L.lk.fn[i]? = some dd := by rfl) : FunD K dd.name dd.qual dd.params dd.body dd.scope (dd.dvs K) (dd.kws K) (He.fAd K dd.at_) (fdAt K (He.fAd K dd.at_)) := fd_eq (t.says.kit.def_ i h)
theorem Tp.gt (t : Tp L K mg) (i : Nat) {dd : DefA} (h : L.lk.gt[i]? = some dd := by rfl) : FunD K dd.name dd.qual dd.params dd.body dd.scope [] [] (dd.adr K) (fdAt K (dd.adr K)) := fd_eq (t.says.gt i h)
theorem Tp.iso (t : Tp L K mg) (i : Nat) (hn : L.cls.Nodup) (hl : L.prog.cls.length = L.cls.length) (hc : ∀ (c : Nat) (cd : Cls), L.prog.cls[c]? = some cd → L2.Cls K (He.ga K (L.cls.getD c ""))) (h : L.lk.ck[i]? = some (isoB L.cls) := by rfl) : IsOk (L.Z w K) := by
  have b := t.says.ck i h
  unfold isoB at b
  simp only [Bool.and_eq_true, decide_eq_true_eq, List.all_eq_true] at b
  obtain ⟨⟨b1, b2⟩, b3⟩ := b
  have mem : ∀ (c : Nat) (cd : Cls), L.prog.cls[c]? = some cd → L.cls.getD c "" ∈ L.cls ∧ c < L.cls.length := fun c cd e => by
    have : c < L.cls.length := by rw [← hl]; exact (List.getElem?_eq_some_iff.mp e).1
    rw [List.getD_eq_getElem?_getD, List.getElem?_eq_getElem this]
    exact ⟨List.getElem_mem this, this⟩
  refine ⟨hc, fun c cd e => (b3 _ (mem c cd e).1).1.1, b1, b2, fun c cd e => (b3 _ (mem c cd e).1).1.2, fun c cd ty e => (b3 _ (mem c cd e).1).2.1 ty (by cases ty <;> decide), fun c cd ty e ht => (b3 _ (mem c cd e).1).2.2.1 ty ht, fun c d cd cd' e e' => ?_⟩
  have q := (b3 _ (mem c cd e).1).2.2.2 _ (mem d cd' e').1
  have hcd : decide (L.cls.getD c "" = L.cls.getD d "") = (c == d) := by
    have h1 := (mem c cd e).2
    have h2 := (mem d cd' e').2
    rw [List.getD_eq_getElem?_getD, List.getD_eq_getElem?_getD, List.getElem?_eq_getElem h1, List.getElem?_eq_getElem h2]
    by_cases he : c = d
    · subst he; simp
    · have : L.cls[c] ≠ L.cls[d] := fun z => he ((List.getElem_inj hn).mp z)
      simp [he, this]
  rw [hcd] at q
  exact q
/-- the proof of one def -/
theorem def_ok {qual x : Str} {pa : Arguments} {body : List Stmt} {sc : Scope} {dvs : List V} {kws : List (Str × V)} {f : Addr} {fd : FuncData} {N ps : List Str} {mfd : Fn} {i : Nat} (F : FunD K x qual pa body sc dvs kws f fd) (S : FnScope N ps sc) (hf : L.prog.fns[i]? = some mfd) (hs : mfd.slots = N.length) (hn : ps.length ≤ N.length)
    (hb : ∀ (d : Nat) (cdv : Value) (A : Around) (outer : List Env) (s : Shared) (H : Hp) (E : XK) (B : List Layer), (∀ d', d = d' → L.All K mg base w d') → Room (2 * d + 2) (cxOf CX0 L.pw w K mg base N qual sc f cdv A outer s H E).nox.A → XOk (cxOf CX0 L.pw w K mg base N qual sc f cdv A outer s H E).nox (L.Z w K) ⟨L.prog, B, WW, callN L.prog WW d⟩ →
      PSs (cxOf CX0 L.pw w K mg base N qual sc f cdv A outer s H E).nox body (tSs (L.Z w K) ⟨L.prog, B, WW, callN L.prog WW d⟩ nX mfd.body)) :
    ∀ d, (∀ d', d = d' + 1 → L.All K mg base w d') → FnOk L.pw w K mg base CX0 (2 * d + 1) f fd ps (spD (L.Z w K) WW d i ps.length)
  | 0, _ => F.ok S (fun _ _ _ _ h => h.elim) fun _ _ _ _ _ _ _ _ _ h => h.elim
  | d + 1, ih => by
    refine F.ok (k := 2 * d + 2) S (fun vs H Q E h => spB_len rfl vs H Q E h) fun cdv A outer s H vs Q E hr h => ?_
    obtain ⟨t, h1, h2⟩ := body_run (X := (cxOf CX0 L.pw w K mg base N qual sc f cdv A outer s H E).nox) (Z := L.Z w K) (N := N) (E := E) hf hs hn (fun B => hb d cdv A outer s H E B (fun d' e => ih d' (by omega)) hr ⟨rfl, rfl, rfl, rfl, S.nd, rfl, hr.mono (by omega)⟩) h
    exact ⟨t, PSs.nox h1, h2⟩
theorem all_of (h : ∀ d, (∀ d', d = d' + 1 → L.All K mg base w d') → L.All K mg base w d) : ∀ d, L.All K mg base w d
  | 0 => h 0 fun _ e => by cases e
  | d + 1 => h (d + 1) fun d' e => by cases e; exact all_of h d
end
end Mini
end
section
set_option linter.all false
set_option maxRecDepth 100000
set_option maxHeartbeats 2000000
/-! A law's end: from a Mini run to the law's call. -/
namespace Mini
open PySem PySem.Spec PyProof.Rows L2
def R0 (H : Hp) : Rn := ⟨H, fun _ _ => 0, fun _ => 0, fun _ => none⟩
theorem sto0 {Z : Zt} {H : Hp} : Sto Z (R0 H) [] [] H := by
  have e : ∀ l, sz [] [] l = 0 := fun l => by
    unfold sz
    split
    · rfl
    · rfl
  refine ⟨fun _ _ h => h, ?_, fun l k c h => ?_, fun l k l' k' h => ?_, fun a o h => by cases h⟩
  · funext l
    rw [e]; rfl
  · have := getB_lt h
    rw [e] at this
    exact absurd this (Nat.not_lt_zero _)
  · exact absurd (show k < 0 from h) (Nat.not_lt_zero _)
theorem rps_ints {Z : Zt} {R : Rn} : ∀ ns : List Int, Rps Z R (ns.map MV.int) (ns.map V.int)
  | [] => Rps.nil
  | n :: ns => Rps.cons rp_int (rps_ints ns)
theorem walk_M {l : PySem.W.OpenLaw} {L : Law} {n D i : Nat} {q : Program} {loose : List Str} {XP : (Str → Option Value) → Heap → Prop} {d : DefRec} {dd : He.DefD}
    (hn : l.most = some n) (hn2 : n ≤ sizeLine) (hdf : d.params.defaults = []) (hr : Room (2 * (D + 1) + 1) callerA) (hpw : l.prog = L.pw)
    (hfa : L.lk.fa[i]? = some (.glo d.name)) (hdd : dd.at_ = (d.name, none)) (j : Nat) (hj : L.lk.fn[j]? = some dd) (hck : L.lk.ck[0]? = some noLst) {f : Nat} {e : FnT} (he : L.tbl[f]? = some e) (hea : ∀ K, e.adr K = He.fAd K (d.name, none)) (hps : e.ps = [("script" : Str)])
    (hb : ∀ (kV doc pm : Value) (an : Option Addr) (cdv ct : Value) (u : Value), bindArgs (PySem.W.fnOf dd.name dd.qual dd.params dd.body dd.scope .none kV doc pm an cdv ct) ⟨[u], []⟩ = pure [(("script" : Str), u)]) (hdfl : dd.dfl = []) (hkwd : dd.kwd = [])
    (all : ∀ (K : PySem.W.Frag) (mg : Str → Option Value) (base : Heap) (w : World), Tp L K mg → L.All K mg base w (D + 1))
    (run : ∀ ns : List Int, ns.length ≤ n → (∀ z ∈ ns, Builtin.Int.intBits z ≤ 1048576) → ∃ T, bodyRun L.prog WW (callN L.prog WW D) f [.lst (ns.map MV.int)] [] [] = .ok (.bl true) T) :
    PySem.W.WalkO q loose XP (fun w => L.lk.hook.says w) l.row.toRowW d [] (fun f vs => PySem.call f vs) := by
  refine Att.attach_callB hn hdf fun w s₀ s₁ mg mb fa o pm cd doc a vs ns G Y ho hd hcd hmg hobj hints hlen hbits hg => ?_
  obtain ⟨K, KX, c⟩ := Y
  have t : Tp L K mg := ⟨c, _, KX, G.T.g⟩
  have e1 : mg d.name = some (.ref (He.ga K d.name)) := t.glo i hfa
  have e2 : fa = e.adr K := by
    rw [hea]
    have := hmg.symm.trans e1
    cases this
    rfl
  subst e2
  have F := t.def_ j hj
  rw [hdd, ← hea] at F
  have nl : noLst K = true := c.ck 0 hck
  have FF := fun base => all K mg base w t f e he
  rw [hps] at FF
  have hF0 : FunD K dd.name dd.qual dd.params dd.body dd.scope [] [] (e.adr K) (fdAt K (e.adr K)) := by
    have z1 : dd.dvs K = [] := by unfold He.DefD.dvs; rw [hdfl]; rfl
    have z2 : dd.kws K = [] := by unfold He.DefD.kws; rw [hkwd]; rfl
    rw [z1, z2] at F
    exact F
  refine law_call (CX := CX0) KX G.T.g G.T.b G.T.builtins G.T.nolimit hg hobj hints (Nat.le_trans hlen hn2) hr (fun base _ _ => by rw [hpw]; exact FF base) (fun s u => hF0.bindsA (ps := [("script" : Str)]) (fun kV doc pm an cdv ct us hl => match us, hl with
    | [u], _ => hb kV doc pm an cdv ct u) s [u] rfl) (fun H hO hS => ?_) fun H e s' => False.elim
  obtain ⟨T, hT⟩ := run ns hlen hbits
  refine ⟨R0 H, [], [], [.lst (ns.map MV.int)], sto0, Rps.cons (rp_lst (noLst_sq nl hS) (rps_ints ns)) Rps.nil, rfl, ?_⟩
  show Out _ _ _ _ (bodyRun L.prog WW (callN L.prog WW D) f [.lst (ns.map MV.int)] [] []) _ _ _
  rw [hT]
  intro H' R' _ _ x hx
  simp only [Rp] at hx
  exact hx
end Mini
namespace Mini
theorem bits_lt {z : Int} {K : Nat} (h : PySem.Builtin.Int.intBits z ≤ K) : z.natAbs < 2 ^ K := by
  unfold PySem.Builtin.Int.intBits at h
  by_cases h0 : z = 0
  · subst h0
    exact Nat.two_pow_pos K
  · have hn : z.natAbs ≠ 0 := by omega
    have hb : (z == 0) = false := by simpa using h0
    rw [hb] at h
    simp only [Bool.false_eq_true, if_false] at h
    exact (Nat.log2_lt hn).mp (by omega)
end Mini
end
section
set_option autoImplicit false
set_option maxRecDepth 100000
namespace Mini
namespace K79
def f_is_whole : Fn := { slots := 3, kind := .pure, body := .cons (.ret (.and (.isi (.var 0) [.int] []) (.and (.not (.isi (.var 0) [.bool] [])) (.chain .le .le (.var 1) (.var 0) (.var 2))))) .nil }
def f_is_pair : Fn := { slots := 3, kind := .pure, body := .cons (.ite (.or (.not (.isi (.var 0) [.tuple] [])) (.cmp .ne (.blt .len (.cons (.var 0) .nil)) (.const (.int 2)))) (.cons (.ret (.const (.bl false))) .nil) .nil) (.cons (.ite (.or (.not (.call false 0 [.a 0, .a 1, .a 2] (.cons (.idx (.var 0) (.const (.int 0))) (.cons (.const (.int 0)) (.cons (.bin .sub (.var 1) (.const (.int 1))) .nil))))) (.not (.call false 0 [.a 0, .a 1, .a 2] (.cons (.idx (.var 0) (.const (.int 1))) (.cons (.const (.int 0)) (.cons (.bin .sub (.var 1) (.const (.int 1))) .nil)))))) (.cons (.ret (.const (.bl false))) .nil) .nil) (.cons (.ret (.or (.not (.var 2)) (.cmp .lt (.idx (.var 0) (.const (.int 0))) (.idx (.var 0) (.const (.int 1)))))) .nil)) }
def f_are_pairs : Fn := { slots := 5, kind := .pure, body := .cons (.ite (.not (.isi (.var 0) [.list, .tuple] [])) (.cons (.ret (.const (.bl false))) .nil) .nil) (.cons (.asg (.name 3) (.cell (.disp .nil))) (.cons (.for_ (.name 4) (.seq (.var 0)) (.cons (.ite (.or (.not (.call false 1 [.a 0, .a 1, .a 2] (.cons (.var 4) (.cons (.var 1) (.cons (.var 2) .nil))))) (.cmp .in_ (.var 4) (.var 3))) (.cons (.ret (.const (.bl false))) .nil) .nil) (.cons (.expr (.bm (.var 3) .append (.cons (.var 4) .nil))) .nil))) (.cons (.ret (.const (.bl true))) .nil))) }
def f_Frame___init__ : Fn := { slots := 4, kind := (.initF 0 3), body := .cons (.ite (.not (.call false 0 [.a 0, .a 1, .a 2] (.cons (.var 1) (.cons (.const (.int 1)) (.cons (.const (.int 3)) .nil))))) (.cons .never .nil) .nil) (.cons (.ite (.not (.call false 2 [.a 0, .a 1, .a 2] (.cons (.var 2) (.cons (.var 1) (.cons (.const (.bl true)) .nil))))) (.cons .never .nil) .nil) (.cons (.ite (.not (.call false 2 [.a 0, .a 1, .a 2] (.cons (.var 3) (.cons (.var 1) (.cons (.const (.bl false)) .nil))))) (.cons .never .nil) .nil) (.cons (.asg (.fld (.var 0) 2) (.var 1)) (.cons (.asg (.fld (.var 0) 1) (.blt .tuple1 (.cons (.fz (.sorted (.var 2))) .nil))) (.cons (.asg (.fld (.var 0) 0) (.blt .tuple1 (.cons (.fz (.sorted (.var 3))) .nil))) .nil))))) }
def f_Frame_beside : Fn := { slots := 4, kind := .pure, body := .cons (.ret (.blt .tuple1 (.cons (.fz (.sorted (.fz (.cat (.fz (.comp [2, 3] (.tup (.cons (.name 2) (.cons (.name 3) .nil))) (.seq (.fld false (.var 0) 1)) (.cons (.cmp .eq (.var 2) (.var 1)) .nil) (.var 3))) (.fz (.comp [2, 3] (.tup (.cons (.name 2) (.cons (.name 3) .nil))) (.seq (.fld false (.var 0) 1)) (.cons (.cmp .eq (.var 3) (.var 1)) .nil) (.var 2))))))) .nil))) .nil }
def f_Frame_onward : Fn := { slots := 4, kind := .pure, body := .cons (.ret (.blt .tuple1 (.cons (.fz (.comp [2, 3] (.tup (.cons (.name 2) (.cons (.name 3) .nil))) (.seq (.fld false (.var 0) 0)) (.cons (.cmp .eq (.var 2) (.var 1)) .nil) (.var 3))) .nil))) .nil }
def f_Frame_back : Fn := { slots := 4, kind := .pure, body := .cons (.ret (.blt .tuple1 (.cons (.fz (.comp [2, 3] (.tup (.cons (.name 2) (.cons (.name 3) .nil))) (.seq (.fld false (.var 0) 0)) (.cons (.cmp .eq (.var 3) (.var 1)) .nil) (.var 2))) .nil))) .nil }
def f_is_cell : Fn := { slots := 1, kind := .pure, body := .cons (.ite (.or (.not (.isi (.var 0) [.tuple] [])) (.cmp .ne (.blt .len (.cons (.var 0) .nil)) (.const (.int 2)))) (.cons (.ret (.const (.bl false))) .nil) .nil) (.cons (.ret (.and (.call false 0 [.a 0, .a 1, .a 2] (.cons (.idx (.var 0) (.const (.int 0))) (.cons (.const (.int 0)) (.cons (.const (.int 9)) .nil)))) (.isi (.idx (.var 0) (.const (.int 1))) [.bool] []))) .nil) }
def f_is_column : Fn := { slots := 3, kind := .pure, body := .cons (.ite (.or (.not (.isi (.var 1) [.tuple] [])) (.cmp .ne (.blt .len (.cons (.var 1) .nil)) (.fld false (.var 0) 2))) (.cons (.ret (.const (.bl false))) .nil) .nil) (.cons (.ret (.cmp .nin (.const (.bl false)) (.fz (.comp [2] (.name 2) (.seq (.var 1)) .nil (.call false 7 [.a 0] (.cons (.var 2) .nil)))))) .nil) }
def f_Stretch___init__ : Fn := { slots := 5, kind := (.initF 1 2), body := .cons (.ite (.not (.isi (.var 2) [.list, .tuple] [])) (.cons .never .nil) .nil) (.cons (.for_ (.tup (.cons (.name 3) (.cons (.name 4) .nil))) (.enum (.var 2)) (.cons (.ite (.not (.call false 8 [.a 0, .a 1] (.cons (.var 1) (.cons (.var 4) .nil)))) (.cons .never .nil) .nil) .nil)) (.cons (.asg (.fld (.var 0) 4) (.var 1)) (.cons (.asg (.fld (.var 0) 3) (.fz (.list (.var 2)))) .nil))) }
def f_Stretch_columns : Fn := { slots := 1, kind := .pure, body := .cons (.ret (.cell (.list (.fld false (.var 0) 3)))) .nil }
def f_Stretch___len__ : Fn := { slots := 1, kind := .pure, body := .cons (.ret (.blt .len (.cons (.fld false (.var 0) 3) .nil))) .nil }
def f_Web___init__ : Fn := { slots := 3, kind := (.initF 2 2), body := .cons (.ite (.cmp .lt (.own 7 (.cons (.var 1) .nil)) (.ite (.var 2) (.const (.int 3)) (.const (.int 1)))) (.cons .never .nil) .nil) (.cons (.asg (.fld (.var 0) 6) (.var 1)) (.cons (.asg (.fld (.var 0) 5) (.var 2)) .nil)) }
def f_Web_seats : Fn := { slots := 3, kind := .pure, body := .cons (.ret (.fz (.comp2 [1, 2] [2] (.name 1) (.range1 (.own 7 (.cons (.fld false (.var 0) 6) .nil))) .nil (.name 2) (.range1 (.fld false (.fld false (.fld false (.var 0) 6) 4) 2)) .nil (.tup (.cons (.var 1) (.cons (.var 2) .nil)))))) .nil }
def f_Web_is_seat : Fn := { slots := 3, kind := .pure, body := .cons (.ite (.or (.not (.isi (.var 1) [.tuple] [])) (.cmp .ne (.blt .len (.cons (.var 1) .nil)) (.const (.int 2)))) (.cons (.ret (.const (.bl false))) .nil) .nil) (.cons (.asg (.name 2) (.fld false (.fld false (.var 0) 6) 4)) (.cons (.ret (.and (.call false 0 [.a 0, .a 1, .a 2] (.cons (.idx (.var 1) (.const (.int 0))) (.cons (.const (.int 0)) (.cons (.bin .sub (.own 7 (.cons (.fld false (.var 0) 6) .nil)) (.const (.int 1))) .nil)))) (.call false 0 [.a 0, .a 1, .a 2] (.cons (.idx (.var 1) (.const (.int 1))) (.cons (.const (.int 0)) (.cons (.bin .sub (.fld false (.var 2) 2) (.const (.int 1))) .nil)))))) .nil)) }
def f_Web_must_have : Fn := { slots := 2, kind := .pure, body := .cons (.ite (.not (.meth false (.var 0) 8 [.a 0] (.cons (.var 1) .nil))) (.cons .never .nil) .nil) .nil }
def f_Web_cell : Fn := { slots := 2, kind := .pure, body := .cons (.expr (.meth false (.var 0) 9 [.a 0] (.cons (.var 1) .nil))) (.cons (.ret (.idx (.idx (.fld false (.fld false (.var 0) 6) 3) (.idx (.var 1) (.const (.int 0)))) (.idx (.var 1) (.const (.int 1))))) .nil) }
def f_Web_neighbours : Fn := { slots := 8, kind := .pure, body := .cons (.expr (.meth false (.var 0) 9 [.a 0] (.cons (.var 1) .nil))) (.cons (.asg (.tup (.cons (.name 2) (.cons (.name 3) .nil))) (.var 1)) (.cons (.asg (.tup (.cons (.name 4) (.cons (.name 5) .nil))) (.tup (.cons (.fld false (.fld false (.var 0) 6) 4) (.cons (.own 7 (.cons (.fld false (.var 0) 6) .nil)) .nil)))) (.cons (.asg (.name 6) (.fz (.comp [7] (.name 7) (.seq (.meth false (.var 4) 12 [.a 0] (.cons (.var 3) .nil))) .nil (.tup (.cons (.var 2) (.cons (.var 7) .nil)))))) (.cons (.ite (.or (.fld false (.var 0) 5) (.cmp .lt (.bin .add (.var 2) (.const (.int 1))) (.var 5))) (.cons (.asg (.name 6) (.fz (.cat (.var 6) (.fz (.comp [7] (.name 7) (.seq (.meth false (.var 4) 11 [.a 0] (.cons (.var 3) .nil))) .nil (.tup (.cons (.bin .mod (.bin .add (.var 2) (.const (.int 1))) (.var 5)) (.cons (.var 7) .nil)))))))) .nil) .nil) (.cons (.ite (.or (.fld false (.var 0) 5) (.cmp .gt (.var 2) (.const (.int 0)))) (.cons (.asg (.name 6) (.fz (.cat (.var 6) (.fz (.comp [7] (.name 7) (.seq (.meth false (.var 4) 10 [.a 0] (.cons (.var 3) .nil))) .nil (.tup (.cons (.bin .mod (.bin .sub (.var 2) (.const (.int 1))) (.var 5)) (.cons (.var 7) .nil)))))))) .nil) .nil) (.cons (.ret (.fz (.sorted (.var 6)))) .nil)))))) }
def f_Web_changed : Fn := { slots := 5, kind := .pure, body := .cons (.expr (.meth false (.var 0) 9 [.a 0] (.cons (.var 1) .nil))) (.cons (.ite (.not (.call false 7 [.a 0] (.cons (.var 2) .nil))) (.cons .never .nil) .nil) (.cons (.asg (.name 3) (.fld true (.fld false (.var 0) 6) 13)) (.cons (.asg (.name 4) (.cell (.list (.idx (.var 3) (.idx (.var 1) (.const (.int 0))))))) (.cons (.asg (.sub (.var 4) (.idx (.var 1) (.const (.int 1)))) (.var 2)) (.cons (.asg (.sub (.var 3) (.idx (.var 1) (.const (.int 0)))) (.blt .tuple1 (.cons (.var 4) .nil))) (.cons (.ret (.call false 12 [.a 0, .a 1] (.cons (.call false 9 [.a 0, .a 1] (.cons (.fld false (.fld false (.var 0) 6) 4) (.cons (.var 3) .nil))) (.cons (.fld false (.var 0) 5) .nil)))) .nil)))))) }
def f_Field___init__ : Fn := { slots := 3, kind := (.initM 3 5), body := .cons (.asg (.fld (.var 0) 20) (.var 1)) (.cons (.asg (.fld (.var 0) 19) (.var 1)) (.cons (.asg (.fld (.var 0) 16) (.cell (.dcomp [2] (.name 2) (.seq (.meth false (.var 1) 18 [] .nil)) (.cons (.idx (.meth false (.var 1) 17 [.a 0] (.cons (.var 2) .nil)) (.const (.int 1))) .nil) (.var 2) (.const (.bl true))))) (.cons (.asg (.fld (.var 0) 15) (.cell (.disp .nil))) (.cons (.asg (.fld (.var 0) 14) (.cell (.disp .nil))) .nil)))) }
def f_Field_web : Fn := { slots := 1, kind := .pure, body := .cons (.ret (.fld false (.var 0) 19)) .nil }
def f_Field_inside : Fn := { slots := 1, kind := .pure, body := .cons (.ret (.fz (.sorted (.fz (.list (.fld false (.var 0) 16)))))) .nil }
def f_Field_history : Fn := { slots := 1, kind := .pure, body := .cons (.ret (.fz (.list (.fld false (.var 0) 15)))) .nil }
def f_Field_can_join : Fn := { slots := 5, kind := .pure, body := .cons (.asg (.name 1) (.cell (.disp .nil))) (.cons (.for_ (.name 2) (.seq (.meth false (.fld false (.var 0) 19) 18 [] .nil)) (.cons (.asg (.name 3) (.fz (.comp [4] (.name 4) (.seq (.meth false (.fld false (.var 0) 19) 21 [.a 0] (.cons (.var 2) .nil))) (.cons (.cmp .in_ (.var 4) (.fld false (.var 0) 16)) .nil) (.var 4)))) (.cons (.ite (.and (.cmp .nin (.var 2) (.fld false (.var 0) 16)) (.cmp .ge (.blt .len (.cons (.var 3) .nil)) (.idx (.meth false (.fld false (.var 0) 19) 17 [.a 0] (.cons (.var 2) .nil)) (.const (.int 0))))) (.cons (.expr (.bm (.var 1) .append (.cons (.var 2) .nil))) .nil) .nil) .nil))) (.cons (.ret (.var 1)) .nil)) }
def f_Field_note : Fn := { slots := 2, kind := .imp, body := .cons (.expr (.bm (.fld false (.var 0) 14) .append (.cons (.tup (.cons (.fld false (.var 0) 19) (.cons (.fz (.list (.fld false (.var 0) 16))) .nil))) .nil))) (.cons (.expr (.bm (.fld false (.var 0) 15) .append (.cons (.var 1) .nil))) .nil) }
def f_Field_enter : Fn := { slots := 2, kind := .imp, body := .cons (.expr (.meth false (.fld false (.var 0) 19) 9 [.a 0] (.cons (.var 1) .nil))) (.cons (.ite (.cmp .nin (.var 1) (.meth false (.var 0) 23 [] .nil)) (.cons .never .nil) .nil) (.cons (.expr (.meth false (.var 0) 22 [.a 0] (.cons (.tup (.cons (.const (.str [101, 110, 116, 101, 114])) (.cons (.var 1) .nil))) .nil))) (.cons (.asg (.sub (.fld false (.var 0) 16) (.var 1)) (.const (.bl true))) .nil))) }
def f_Field_step : Fn := { slots := 3, kind := .imp, body := .cons (.asg (.name 1) (.meth false (.var 0) 23 [] .nil)) (.cons (.expr (.meth false (.var 0) 22 [.a 0] (.cons (.tup (.cons (.const (.str [115, 116, 101, 112])) .nil)) .nil))) (.cons (.for_ (.name 2) (.seq (.var 1)) (.cons (.asg (.sub (.fld false (.var 0) 16) (.var 2)) (.const (.bl true))) .nil)) (.cons (.ret (.var 1)) .nil))) }
def f_Field_put : Fn := { slots := 2, kind := .imp, body := .cons (.expr (.meth false (.fld false (.var 0) 19) 9 [.a 0] (.cons (.var 1) .nil))) (.cons (.ite (.cmp .in_ (.var 1) (.fld false (.var 0) 16)) (.cons .never .nil) .nil) (.cons (.expr (.meth false (.var 0) 22 [.a 0] (.cons (.tup (.cons (.const (.str [112, 117, 116])) (.cons (.var 1) .nil))) .nil))) (.cons (.asg (.sub (.fld false (.var 0) 16) (.var 1)) (.const (.bl true))) .nil))) }
def f_Field_leave : Fn := { slots := 2, kind := .imp, body := .cons (.expr (.meth false (.fld false (.var 0) 19) 9 [.a 0] (.cons (.var 1) .nil))) (.cons (.ite (.cmp .nin (.var 1) (.fld false (.var 0) 16)) (.cons .never .nil) .nil) (.cons (.expr (.meth false (.var 0) 22 [.a 0] (.cons (.tup (.cons (.const (.str [108, 101, 97, 118, 101])) (.cons (.var 1) .nil))) .nil))) (.cons (.del (.fld false (.var 0) 16) (.var 1)) .nil))) }
def f_Field_set_need : Fn := { slots := 3, kind := .imp, body := .cons (.expr (.meth false (.fld false (.var 0) 19) 9 [.a 0] (.cons (.var 1) .nil))) (.cons (.ite (.not (.call false 0 [.a 0, .a 1, .a 2] (.cons (.var 2) (.cons (.const (.int 0)) (.cons (.const (.int 9)) .nil))))) (.cons .never .nil) .nil) (.cons (.expr (.meth false (.var 0) 22 [.a 0] (.cons (.tup (.cons (.const (.str [110, 101, 101, 100])) (.cons (.var 1) (.cons (.var 2) .nil)))) .nil))) (.cons (.asg (.fld (.var 0) 19) (.meth false (.fld false (.var 0) 19) 24 [.a 0, .a 1] (.cons (.var 1) (.cons (.tup (.cons (.var 2) (.cons (.idx (.meth false (.fld false (.var 0) 19) 17 [.a 0] (.cons (.var 1) .nil)) (.const (.int 1))) .nil))) .nil)))) .nil))) }
def f_Field_undo : Fn := { slots := 3, kind := .imp, body := .cons (.ite (.cmp .eq (.fld false (.var 0) 15) (.fz (.disp .nil))) (.cons .never .nil) .nil) (.cons (.asg (.tup (.cons (.fld (.var 0) 19) (.cons (.name 1) .nil))) (.bm (.fld false (.var 0) 14) .pop0 .nil)) (.cons (.asg (.fld (.var 0) 16) (.cell (.dcomp [2] (.name 2) (.seq (.var 1)) .nil (.var 2) (.const (.bl true))))) (.cons (.ret (.bm (.fld false (.var 0) 15) .pop0 .nil)) .nil))) }
def f_Field_fork : Fn := { slots := 3, kind := .imp, body := .cons (.asg (.name 1) (.call false 19 [.a 0] (.cons (.fld false (.var 0) 20) .nil))) (.cons (.asg (.fld (.var 1) 19) (.fld false (.var 0) 19)) (.cons (.asg (.fld (.var 1) 16) (.cell (.dcomp [2] (.name 2) (.seq (.fld false (.var 0) 16)) .nil (.var 2) (.const (.bl true))))) (.cons (.asg (.fld (.var 1) 15) (.cell (.list (.fld false (.var 0) 15)))) (.cons (.asg (.fld (.var 1) 14) (.cell (.list (.fld false (.var 0) 14)))) (.cons (.ret (.var 1)) .nil))))) }
def f_Field_outcome : Fn := { slots := 2, kind := .pure, body := .cons (.asg (.name 1) (.meth false (.var 0) 27 [] .nil)) (.cons (.while_ (.cmp .ne (.meth false (.var 1) 26 [] .nil) (.fz (.disp .nil))) (.cons .pass .nil)) (.cons (.ret (.fld false (.var 1) 25)) .nil)) }
def f_Field_never : Fn := { slots := 3, kind := .pure, body := .cons (.asg (.name 1) (.meth false (.var 0) 28 [] .nil)) (.cons (.ret (.fz (.comp [2] (.name 2) (.seq (.meth false (.fld false (.var 0) 19) 18 [] .nil)) (.cons (.cmp .nin (.var 2) (.var 1)) .nil) (.var 2)))) .nil) }
def f_replayed : Fn := { slots := 4, kind := .imp, body := .cons (.asg (.name 2) (.call false 19 [.a 0] (.cons (.var 0) .nil))) (.cons (.for_ (.name 3) (.seq (.var 1)) (.cons (.ite (.cmp .eq (.idx (.var 3) (.const (.int 0))) (.const (.str [101, 110, 116, 101, 114]))) (.cons (.expr (.meth false (.var 2) 29 [.a 0] (.cons (.idx (.var 3) (.const (.int 1))) .nil))) .nil) (.cons (.ite (.cmp .eq (.idx (.var 3) (.const (.int 0))) (.const (.str [115, 116, 101, 112]))) (.cons (.expr (.meth false (.var 2) 26 [] .nil)) .nil) (.cons (.ite (.cmp .eq (.idx (.var 3) (.const (.int 0))) (.const (.str [112, 117, 116]))) (.cons (.expr (.meth false (.var 2) 30 [.a 0] (.cons (.idx (.var 3) (.const (.int 1))) .nil))) .nil) (.cons (.ite (.cmp .eq (.idx (.var 3) (.const (.int 0))) (.const (.str [108, 101, 97, 118, 101]))) (.cons (.expr (.meth false (.var 2) 31 [.a 0] (.cons (.idx (.var 3) (.const (.int 1))) .nil))) .nil) (.cons (.expr (.meth false (.var 2) 32 [.a 0, .a 1] (.cons (.idx (.var 3) (.const (.int 1))) (.cons (.idx (.var 3) (.const (.int 2))) .nil)))) .nil)) .nil)) .nil)) .nil)) .nil)) (.cons (.ret (.var 2)) .nil)) }
def f__law_tape : Fn := { slots := 5, kind := .imp, body := .cons (.asg (.name 2) (.bin .add (.const (.int 101)) (.bin .mul (.var 1) (.const (.int 53))))) (.cons (.for_ (.name 3) (.seq (.var 0)) (.cons (.asg (.name 2) (.bin .add (.bin .mod (.blt .int1 (.cons (.bin .pow (.bin .add (.bin .add (.bin .mul (.var 2) (.const (.int 30029))) (.bin .mul (.var 3) (.var 3))) (.const (.int 13))) (.const (.int 2))) .nil)) (.const (.int 2147483563))) (.const (.int 2)))) .nil)) (.cons (.asg (.name 4) (.ite (.and (.cmp .lt (.var 1) (.blt .len (.cons (.var 0) .nil))) (.cmp .ge (.idx (.var 0) (.var 1)) (.bin .pow (.const (.int 10)) (.const (.int 18))))) (.bin .sub (.idx (.var 0) (.var 1)) (.bin .pow (.const (.int 10)) (.const (.int 18)))) (.const (.int 0)))) (.cons (.ret (.cell (.ddisp (.cons (.const (.str [100, 105, 103, 105, 116, 115])) (.var 4) (.cons (.const (.str [109, 105, 120, 101, 100])) (.var 2) .nil))))) .nil))) }
def f__law_pick : Fn := { slots := 4, kind := .imp, body := .cons (.ite (.cmp .ge (.idx (.var 0) (.const (.str [100, 105, 103, 105, 116, 115]))) (.var 1)) (.cons (.asg (.name 2) (.bin .mod (.blt .int1 (.cons (.idx (.var 0) (.const (.str [100, 105, 103, 105, 116, 115]))) .nil)) (.var 1))) (.cons (.asg (.sub (.var 0) (.const (.str [100, 105, 103, 105, 116, 115]))) (.bin .fdiv (.idx (.var 0) (.const (.str [100, 105, 103, 105, 116, 115]))) (.var 1))) (.cons (.ret (.var 2)) .nil))) .nil) (.cons (.asg (.sub (.var 0) (.const (.str [109, 105, 120, 101, 100]))) (.bin .mod (.blt .int1 (.cons (.bin .add (.bin .mul (.idx (.var 0) (.const (.str [109, 105, 120, 101, 100]))) (.const (.int 40014))) (.const (.int 1031))) .nil)) (.const (.int 2147483563)))) (.cons (.asg (.name 3) (.bin .mod (.blt .int1 (.cons (.bin .pow (.idx (.var 0) (.const (.str [109, 105, 120, 101, 100]))) (.const (.int 2))) .nil)) (.const (.int 2147483399)))) (.cons (.ret (.bin .mod (.blt .int1 (.cons (.bin .fdiv (.bin .mod (.blt .int1 (.cons (.bin .pow (.var 3) (.const (.int 3))) .nil)) (.const (.int 998244353))) (.const (.int 13))) .nil)) (.var 1))) .nil))) }
def f__law_row_right : Fn := { slots := 5, kind := .pure, body := .cons (.asg (.name 1) (.call false 3 [.a 0, .d (.tup []), .a 1] (.cons (.const (.int 1)) (.cons (.fz (.disp (.cons (.tup (.cons (.const (.int 0)) (.cons (.const (.int 0)) .nil))) .nil))) .nil)))) (.cons (.asg (.name 2) (.call false 19 [.a 0] (.cons (.call false 12 [.a 0, .d (.bl false)] (.cons (.call false 9 [.a 0, .a 1] (.cons (.var 1) (.cons (.fz (.cat (.fz (.disp (.cons (.tup (.cons (.tup (.cons (.const (.int 1)) (.cons (.const (.bl true)) .nil))) .nil)) .nil))) (.fz (.rep (.fz (.disp (.cons (.tup (.cons (.tup (.cons (.const (.int 1)) (.cons (.const (.bl false)) .nil))) .nil)) .nil))) (.var 0))))) .nil))) .nil)) .nil))) (.cons (.asg (.name 3) (.fz (.disp (.cons (.meth false (.var 2) 26 [] .nil) (.cons (.meth false (.var 2) 31 [.a 0] (.cons (.tup (.cons (.const (.int 0)) (.cons (.const (.int 0)) .nil))) .nil)) (.cons (.fld false (.var 2) 25) (.cons (.meth false (.var 2) 23 [] .nil) (.cons (.meth false (.var 2) 29 [.a 0] (.cons (.tup (.cons (.const (.int 2)) (.cons (.const (.int 0)) .nil))) .nil)) (.cons (.meth false (.var 2) 31 [.a 0] (.cons (.tup (.cons (.const (.int 1)) (.cons (.const (.int 0)) .nil))) .nil)) (.cons (.meth false (.var 2) 23 [] .nil) .nil)))))))))) (.cons (.ite (.cmp .ne (.var 3) (.fz (.disp (.cons (.fz (.disp (.cons (.tup (.cons (.const (.int 1)) (.cons (.const (.int 0)) .nil))) .nil))) (.cons (.const .non) (.cons (.fz (.disp (.cons (.tup (.cons (.const (.int 1)) (.cons (.const (.int 0)) .nil))) .nil))) (.cons (.fz (.disp (.cons (.tup (.cons (.const (.int 0)) (.cons (.const (.int 0)) .nil))) (.cons (.tup (.cons (.const (.int 2)) (.cons (.const (.int 0)) .nil))) .nil)))) (.cons (.const .non) (.cons (.const .non) (.cons (.fz (.disp (.cons (.tup (.cons (.const (.int 1)) (.cons (.const (.int 0)) .nil))) (.cons (.tup (.cons (.const (.int 3)) (.cons (.const (.int 0)) .nil))) .nil)))) .nil)))))))))) (.cons (.ret (.const (.bl false))) .nil) .nil) (.cons (.ite (.or (.cmp .ne (.meth false (.var 2) 28 [] .nil) (.fz (.comp [4] (.name 4) (.range1 (.bin .add (.var 0) (.const (.int 1)))) .nil (.tup (.cons (.var 4) (.cons (.const (.int 0)) .nil)))))) (.or (.cmp .isn (.meth false (.var 2) 32 [.a 0, .a 1] (.cons (.tup (.cons (.const (.int 0)) (.cons (.const (.int 0)) .nil))) (.cons (.const (.int 2)) .nil))) (.const .non)) (.cmp .ne (.meth false (.var 2) 36 [] .nil) (.fz (.disp (.cons (.tup (.cons (.const (.int 0)) (.cons (.const (.int 0)) .nil))) .nil)))))) (.cons (.ret (.const (.bl false))) .nil) .nil) (.cons (.ite (.or (.cmp .ne (.meth false (.fld false (.var 2) 34) 17 [.a 0] (.cons (.tup (.cons (.const (.int 0)) (.cons (.const (.int 0)) .nil))) .nil)) (.tup (.cons (.const (.int 2)) (.cons (.const (.bl true)) .nil)))) (.or (.cmp .isn (.meth false (.var 2) 30 [.a 0] (.cons (.tup (.cons (.const (.int 0)) (.cons (.const (.int 0)) .nil))) .nil)) (.const .non)) (.cmp .ne (.fld false (.var 2) 25) (.fz (.disp (.cons (.tup (.cons (.const (.int 0)) (.cons (.const (.int 0)) .nil))) (.cons (.tup (.cons (.const (.int 2)) (.cons (.const (.int 0)) .nil))) .nil))))))) (.cons (.ret (.const (.bl false))) .nil) .nil) (.cons (.asg (.name 3) (.fz (.disp (.cons (.meth false (.var 2) 35 [] .nil) (.cons (.meth false (.var 2) 35 [] .nil) (.cons (.meth false (.var 2) 35 [] .nil) .nil)))))) (.cons (.ite (.or (.cmp .ne (.var 3) (.fz (.disp (.cons (.tup (.cons (.const (.str [112, 117, 116])) (.cons (.tup (.cons (.const (.int 0)) (.cons (.const (.int 0)) .nil))) .nil))) (.cons (.tup (.cons (.const (.str [110, 101, 101, 100])) (.cons (.tup (.cons (.const (.int 0)) (.cons (.const (.int 0)) .nil))) (.cons (.const (.int 2)) .nil)))) (.cons (.tup (.cons (.const (.str [108, 101, 97, 118, 101])) (.cons (.tup (.cons (.const (.int 1)) (.cons (.const (.int 0)) .nil))) .nil))) .nil)))))) (.cmp .ne (.meth false (.fld false (.var 2) 34) 17 [.a 0] (.cons (.tup (.cons (.const (.int 0)) (.cons (.const (.int 0)) .nil))) .nil)) (.tup (.cons (.const (.int 1)) (.cons (.const (.bl true)) .nil))))) (.cons (.ret (.const (.bl false))) .nil) .nil) (.cons (.ret (.and (.cmp .eq (.fld false (.var 2) 25) (.fz (.disp (.cons (.tup (.cons (.const (.int 1)) (.cons (.const (.int 0)) .nil))) (.cons (.tup (.cons (.const (.int 2)) (.cons (.const (.int 0)) .nil))) .nil))))) (.cmp .eq (.fld false (.var 2) 33) (.fz (.disp (.cons (.tup (.cons (.const (.str [115, 116, 101, 112])) .nil)) (.cons (.tup (.cons (.const (.str [108, 101, 97, 118, 101])) (.cons (.tup (.cons (.const (.int 0)) (.cons (.const (.int 0)) .nil))) .nil))) (.cons (.tup (.cons (.const (.str [101, 110, 116, 101, 114])) (.cons (.tup (.cons (.const (.int 2)) (.cons (.const (.int 0)) .nil))) .nil))) .nil)))))))) .nil)))))))) }
def f__law_ring_right : Fn := { slots := 5, kind := .pure, body := .cons (.asg (.name 1) (.call false 3 [.a 0, .d (.tup []), .a 1] (.cons (.const (.int 1)) (.cons (.fz (.disp (.cons (.tup (.cons (.const (.int 0)) (.cons (.const (.int 0)) .nil))) .nil))) .nil)))) (.cons (.asg (.name 2) (.call false 19 [.a 0] (.cons (.call false 12 [.a 0, .a 1] (.cons (.call false 9 [.a 0, .a 1] (.cons (.var 1) (.cons (.fz (.comp [4] (.name 4) (.range1 (.bin .mul (.const (.int 2)) (.var 0))) .nil (.tup (.cons (.tup (.cons (.const (.int 2)) (.cons (.cmp .eq (.bin .mod (.var 4) (.const (.int 2))) (.const (.int 0))) .nil))) .nil)))) .nil))) (.cons (.const (.bl true)) .nil))) .nil))) (.cons (.ite (.or (.cmp .ne (.meth false (.var 2) 23 [] .nil) (.fz (.comp [4] (.name 4) (.range3 (.const (.int 1)) (.bin .mul (.const (.int 2)) (.var 0)) (.const (.int 2))) .nil (.tup (.cons (.var 4) (.cons (.const (.int 0)) .nil)))))) (.cmp .ne (.meth false (.var 2) 36 [] .nil) (.fz (.disp .nil)))) (.cons (.ret (.const (.bl false))) .nil) .nil) (.cons (.expr (.meth false (.var 2) 31 [.a 0] (.cons (.tup (.cons (.const (.int 0)) (.cons (.const (.int 0)) .nil))) .nil))) (.cons (.ite (.cmp .ne (.meth false (.var 2) 36 [] .nil) (.fz (.disp (.cons (.tup (.cons (.const (.int 0)) (.cons (.const (.int 0)) .nil))) (.cons (.tup (.cons (.const (.int 1)) (.cons (.const (.int 0)) .nil))) (.cons (.tup (.cons (.bin .sub (.bin .mul (.const (.int 2)) (.var 0)) (.const (.int 1))) (.cons (.const (.int 0)) .nil))) .nil)))))) (.cons (.ret (.const (.bl false))) .nil) .nil) (.cons (.for_ (.name 3) (.range1 (.const (.int 50))) (.cons (.expr (.meth false (.var 2) 30 [.a 0] (.cons (.tup (.cons (.const (.int 0)) (.cons (.const (.int 0)) .nil))) .nil))) (.cons (.expr (.meth false (.var 2) 31 [.a 0] (.cons (.tup (.cons (.const (.int 0)) (.cons (.const (.int 0)) .nil))) .nil))) .nil))) (.cons (.for_ (.name 3) (.range1 (.const (.int 100))) (.cons (.expr (.meth false (.var 2) 35 [] .nil)) .nil)) (.cons (.expr (.meth false (.var 2) 32 [.a 0, .a 1] (.cons (.tup (.cons (.const (.int 1)) (.cons (.const (.int 0)) .nil))) (.cons (.const (.int 1)) .nil)))) (.cons (.ite (.cmp .ne (.meth false (.var 2) 36 [] .nil) (.fz (.disp (.cons (.tup (.cons (.const (.int 0)) (.cons (.const (.int 0)) .nil))) (.cons (.tup (.cons (.bin .sub (.bin .mul (.const (.int 2)) (.var 0)) (.const (.int 1))) (.cons (.const (.int 0)) .nil))) .nil))))) (.cons (.ret (.const (.bl false))) .nil) .nil) (.cons (.expr (.meth false (.var 2) 32 [.a 0, .a 1] (.cons (.tup (.cons (.const (.int 0)) (.cons (.const (.int 0)) .nil))) (.cons (.const (.int 1)) .nil)))) (.cons (.ret (.and (.cmp .eq (.meth false (.var 2) 36 [] .nil) (.fz (.disp .nil))) (.and (.cmp .eq (.blt .len (.cons (.fld false (.var 2) 33) .nil)) (.const (.int 3))) (.cmp .eq (.meth false (.var 2) 28 [] .nil) (.fz (.comp [4] (.name 4) (.range1 (.bin .mul (.const (.int 2)) (.var 0))) .nil (.tup (.cons (.var 4) (.cons (.const (.int 0)) .nil))))))))) .nil)))))))))) }
def f__law_replayed_right : Fn := { slots := 7, kind := .pure, body := .cons (.asg (.name 1) (.call false 12 [.a 0, .d (.bl false)] (.cons (.call false 9 [.a 0, .a 1] (.cons (.call false 3 [.a 0, .d (.tup []), .a 1] (.cons (.const (.int 1)) (.cons (.fz (.disp (.cons (.tup (.cons (.const (.int 0)) (.cons (.const (.int 0)) .nil))) .nil))) .nil))) (.cons (.fz (.cat (.fz (.disp (.cons (.tup (.cons (.tup (.cons (.const (.int 1)) (.cons (.const (.bl true)) .nil))) .nil)) .nil))) (.fz (.rep (.fz (.disp (.cons (.tup (.cons (.tup (.cons (.const (.int 1)) (.cons (.const (.bl false)) .nil))) .nil)) .nil))) (.const (.int 3)))))) .nil))) .nil))) (.cons (.asg (.name 2) (.fz (.cat (.fz (.rep (.fz (.disp (.cons (.tup (.cons (.const (.str [108, 101, 97, 118, 101])) (.cons (.tup (.cons (.const (.int 0)) (.cons (.const (.int 0)) .nil))) .nil))) (.cons (.tup (.cons (.const (.str [112, 117, 116])) (.cons (.tup (.cons (.const (.int 0)) (.cons (.const (.int 0)) .nil))) .nil))) .nil)))) (.var 0))) (.fz (.rep (.fz (.disp (.cons (.tup (.cons (.const (.str [115, 116, 101, 112])) .nil)) .nil))) (.var 0)))))) (.cons (.asg (.name 3) (.call false 19 [.a 0] (.cons (.call false 12 [.a 0, .d (.bl false)] (.cons (.call false 9 [.a 0, .a 1] (.cons (.call false 3 [.a 0, .d (.tup []), .a 1] (.cons (.const (.int 1)) (.cons (.fz (.disp (.cons (.tup (.cons (.const (.int 0)) (.cons (.const (.int 0)) .nil))) .nil))) .nil))) (.cons (.fz (.rep (.fz (.disp (.cons (.tup (.cons (.tup (.cons (.const (.int 1)) (.cons (.const (.bl false)) .nil))) .nil)) .nil))) (.const (.int 3)))) .nil))) .nil)) .nil))) (.cons (.expr (.meth false (.var 3) 30 [.a 0] (.cons (.tup (.cons (.const (.int 0)) (.cons (.const (.int 0)) .nil))) .nil))) (.cons (.asg (.name 4) (.meth false (.var 3) 28 [] .nil)) (.cons (.expr (.meth false (.var 3) 35 [] .nil)) (.cons (.expr (.meth false (.var 3) 32 [.a 0, .a 1] (.cons (.tup (.cons (.const (.int 0)) (.cons (.const (.int 0)) .nil))) (.cons (.const (.int 9)) .nil)))) (.cons (.ite (.cmp .ne (.fz (.disp (.cons (.var 4) (.cons (.meth false (.var 3) 28 [] .nil) (.cons (.meth false (.var 3) 36 [] .nil) (.cons (.meth false (.var 3) 23 [] .nil) .nil)))))) (.fz (.disp (.cons (.meth false (.fld false (.var 3) 34) 18 [] .nil) (.cons (.fz (.disp .nil)) (.cons (.meth false (.fld false (.var 3) 34) 18 [] .nil) (.cons (.fz (.disp .nil)) .nil))))))) (.cons (.ret (.const (.bl false))) .nil) .nil) (.cons (.asg (.name 5) (.call false 34 [.a 0, .a 1] (.cons (.var 1) (.cons (.var 2) .nil)))) (.cons (.ret (.and (.cmp .eq (.fld false (.var 5) 33) (.var 2)) (.and (.cmp .eq (.fld false (.var 5) 25) (.fz (.comp [6] (.name 6) (.range1 (.blt .min2 (.cons (.const (.int 4)) (.cons (.bin .add (.var 0) (.const (.int 1))) .nil)))) .nil (.tup (.cons (.var 6) (.cons (.const (.int 0)) .nil)))))) (.cmp .eq (.meth false (.var 5) 35 [] .nil) (.tup (.cons (.const (.str [115, 116, 101, 112])) .nil)))))) .nil))))))))) }
def f_law : Fn := { slots := 4, kind := .pure, body := .cons (.for_ (.name 1) (.range1 (.blt .max2 (.cons (.const (.int 1)) (.cons (.blt .min2 (.cons (.const (.int 3)) (.cons (.blt .len (.cons (.var 0) .nil)) .nil))) .nil)))) (.cons (.asg (.name 2) (.call false 35 [.a 0, .a 1] (.cons (.var 0) (.cons (.var 1) .nil)))) (.cons (.ite (.or (.not (.call false 37 [.a 0] (.cons (.bin .add (.const (.int 3)) (.call false 36 [.a 0, .a 1] (.cons (.var 2) (.cons (.const (.int 12)) .nil)))) .nil))) (.or (.not (.call false 38 [.a 0] (.cons (.bin .add (.const (.int 2)) (.call false 36 [.a 0, .a 1] (.cons (.var 2) (.cons (.const (.int 6)) .nil)))) .nil))) (.not (.call false 39 [.a 0] (.cons (.bin .add (.const (.int 1)) (.call false 36 [.a 0, .a 1] (.cons (.var 2) (.cons (.const (.int 30)) .nil)))) .nil))))) (.cons (.ret (.const (.bl false))) .nil) .nil) .nil))) (.cons (.asg (.name 3) (.call false 19 [.a 0] (.cons (.call false 12 [.a 0, .d (.bl false)] (.cons (.call false 9 [.a 0, .a 1] (.cons (.call false 3 [.a 0, .d (.tup []), .d (.tup [])] (.cons (.const (.int 2)) .nil)) (.cons (.fz (.disp (.cons (.tup (.cons (.tup (.cons (.const (.int 0)) (.cons (.const (.bl false)) .nil))) (.cons (.tup (.cons (.const (.int 1)) (.cons (.const (.bl false)) .nil))) .nil))) (.cons (.tup (.cons (.tup (.cons (.const (.int 0)) (.cons (.const (.bl true)) .nil))) (.cons (.tup (.cons (.const (.int 9)) (.cons (.const (.bl false)) .nil))) .nil))) .nil)))) .nil))) .nil)) .nil))) (.cons (.ret (.cmp .eq (.fz (.disp (.cons (.fld false (.var 3) 25) (.cons (.meth false (.var 3) 23 [] .nil) (.cons (.meth false (.var 3) 36 [] .nil) (.cons (.meth false (.var 3) 26 [] .nil) .nil)))))) (.fz (.disp (.cons (.fz (.disp (.cons (.tup (.cons (.const (.int 1)) (.cons (.const (.int 0)) .nil))) .nil))) (.cons (.fz (.disp (.cons (.tup (.cons (.const (.int 0)) (.cons (.const (.int 0)) .nil))) .nil))) (.cons (.fz (.disp (.cons (.tup (.cons (.const (.int 0)) (.cons (.const (.int 1)) .nil))) (.cons (.tup (.cons (.const (.int 1)) (.cons (.const (.int 1)) .nil))) .nil)))) (.cons (.fz (.disp (.cons (.tup (.cons (.const (.int 0)) (.cons (.const (.int 0)) .nil))) .nil))) .nil)))))))) .nil)) }
def c_Frame : Cls := { flds := [2, 1, 0], meths := [(12, 4), (11, 5), (10, 6)], props := [] }
def c_Stretch : Cls := { flds := [4, 3], meths := [(7, 11)], props := [(13, 10)] }
def c_Web : Cls := { flds := [6, 5], meths := [(18, 13), (8, 14), (9, 15), (17, 16), (21, 17), (24, 18)], props := [] }
def c_Field : Cls := { flds := [20, 19, 16, 15, 14], meths := [(23, 23), (22, 24), (29, 25), (26, 26), (30, 27), (31, 28), (32, 29), (35, 30), (27, 31), (28, 32), (36, 33)], props := [(34, 20), (25, 21), (33, 22)] }
def prog : Prog := { fns := [f_is_whole, f_is_pair, f_are_pairs, f_Frame___init__, f_Frame_beside, f_Frame_onward, f_Frame_back, f_is_cell, f_is_column, f_Stretch___init__, f_Stretch_columns, f_Stretch___len__, f_Web___init__, f_Web_seats, f_Web_is_seat, f_Web_must_have, f_Web_cell, f_Web_neighbours, f_Web_changed, f_Field___init__, f_Field_web, f_Field_inside, f_Field_history, f_Field_can_join, f_Field_note, f_Field_enter, f_Field_step, f_Field_put, f_Field_leave, f_Field_set_need, f_Field_undo, f_Field_fork, f_Field_outcome, f_Field_never, f_replayed, f__law_tape, f__law_pick, f__law_row_right, f__law_ring_right, f__law_replayed_right, f_law], cls := [c_Frame, c_Stretch, c_Web, c_Field] }
/- fns: 0 is_whole, 1 is_pair, 2 are_pairs, 3 Frame.__init__, 4 Frame.beside, 5 Frame.onward, 6 Frame.back, 7 is_cell, 8 is_column, 9 Stretch.__init__, 10 Stretch.columns, 11 Stretch.__len__, 12 Web.__init__, 13 Web.seats, 14 Web.is_seat, 15 Web.must_have, 16 Web.cell, 17 Web.neighbours, 18 Web.changed, 19 Field.__init__, 20 Field.web, 21 Field.inside, 22 Field.history, 23 Field.can_join, 24 Field.note, 25 Field.enter, 26 Field.step, 27 Field.put, 28 Field.leave, 29 Field.set_need, 30 Field.undo, 31 Field.fork, 32 Field.outcome, 33 Field.never, 34 replayed, 35 _law_tape, 36 _law_pick, 37 _law_row_right, 38 _law_ring_right, 39 _law_replayed_right, 40 law
names: 0 outer, 1 inner, 2 width, 3 held, 4 frame, 5 closed, 6 stretch, 7 __len__, 8 is_seat, 9 must_have, 10 back, 11 onward, 12 beside, 13 columns, 14 before, 15 events, 16 seated, 17 cell, 18 seats, 19 now, 20 first, 21 neighbours, 22 note, 23 can_join, 24 changed, 25 inside, 26 step, 27 fork, 28 outcome, 29 enter, 30 put, 31 leave, 32 set_need, 33 history, 34 web, 35 undo, 36 never
-/
end K79
end Mini
end
section
set_option linter.all false
set_option maxRecDepth 100000
set_option maxHeartbeats 0
namespace Mini
namespace K79
open PySem PySem.Spec PyProof.Rows L2
def top (i : Nat) : Stmt := PySem.Challenge.pw_sparkrows_k79_fields_by_hand.main.body.getD i (.Pass ⟨0, 0, 0, 0⟩)
abbrev s_is_whole : Stmt := top 19
abbrev s_is_pair : Stmt := top 20
abbrev s_are_pairs : Stmt := top 21
abbrev s_Frame___init__ : Stmt := inClass (top 22) 0
abbrev s_Frame_beside : Stmt := inClass (top 22) 2
abbrev s_Frame_onward : Stmt := inClass (top 22) 3
abbrev s_Frame_back : Stmt := inClass (top 22) 4
abbrev s_is_cell : Stmt := top 23
abbrev s_is_column : Stmt := top 24
abbrev s_Stretch___init__ : Stmt := inClass (top 25) 0
abbrev s_Stretch_columns : Stmt := inClass (top 25) 1
abbrev s_Stretch___len__ : Stmt := inClass (top 25) 3
abbrev s_Web___init__ : Stmt := inClass (top 26) 0
abbrev s_Web_seats : Stmt := inClass (top 26) 2
abbrev s_Web_is_seat : Stmt := inClass (top 26) 3
abbrev s_Web_must_have : Stmt := inClass (top 26) 4
abbrev s_Web_cell : Stmt := inClass (top 26) 7
abbrev s_Web_neighbours : Stmt := inClass (top 26) 8
abbrev s_Web_changed : Stmt := inClass (top 26) 9
abbrev s_Field___init__ : Stmt := inClass (top 28) 0
abbrev s_Field_web : Stmt := inClass (top 28) 1
abbrev s_Field_inside : Stmt := inClass (top 28) 2
abbrev s_Field_history : Stmt := inClass (top 28) 3
abbrev s_Field_can_join : Stmt := inClass (top 28) 4
abbrev s_Field_note : Stmt := inClass (top 28) 5
abbrev s_Field_enter : Stmt := inClass (top 28) 6
abbrev s_Field_step : Stmt := inClass (top 28) 7
abbrev s_Field_put : Stmt := inClass (top 28) 8
abbrev s_Field_leave : Stmt := inClass (top 28) 9
abbrev s_Field_set_need : Stmt := inClass (top 28) 10
abbrev s_Field_undo : Stmt := inClass (top 28) 11
abbrev s_Field_fork : Stmt := inClass (top 28) 12
abbrev s_Field_outcome : Stmt := inClass (top 28) 13
abbrev s_Field_never : Stmt := inClass (top 28) 14
abbrev s_replayed : Stmt := top 29
abbrev s__law_tape : Stmt := top 31
abbrev s__law_pick : Stmt := top 32
abbrev s__law_row_right : Stmt := top 33
abbrev s__law_ring_right : Stmt := top 34
abbrev s__law_replayed_right : Stmt := top 35
abbrev s_law : Stmt := top 36
def d_is_whole : He.DefD := ⟨("is_whole", none), "is_whole", "is_whole", defArgs s_is_whole, defBody s_is_whole, defScope s_is_whole, [], []⟩
def d_is_pair : He.DefD := ⟨("is_pair", none), "is_pair", "is_pair", defArgs s_is_pair, defBody s_is_pair, defScope s_is_pair, [], []⟩
def d_are_pairs : He.DefD := ⟨("are_pairs", none), "are_pairs", "are_pairs", defArgs s_are_pairs, defBody s_are_pairs, defScope s_are_pairs, [], []⟩
def d_Frame___init__ : He.DefD := ⟨("Frame", some "__init__"), "__init__", "Frame.__init__", defArgs s_Frame___init__, defBody s_Frame___init__, defScope s_Frame___init__, [], [("inner", .adr (kwA ("Frame", some "__init__") "inner")), ("outer", .adr (kwA ("Frame", some "__init__") "outer"))]⟩
def d_Frame_beside : He.DefD := ⟨("Frame", some "beside"), "beside", "Frame.beside", defArgs s_Frame_beside, defBody s_Frame_beside, defScope s_Frame_beside, [], []⟩
def d_Frame_onward : He.DefD := ⟨("Frame", some "onward"), "onward", "Frame.onward", defArgs s_Frame_onward, defBody s_Frame_onward, defScope s_Frame_onward, [], []⟩
def d_Frame_back : He.DefD := ⟨("Frame", some "back"), "back", "Frame.back", defArgs s_Frame_back, defBody s_Frame_back, defScope s_Frame_back, [], []⟩
def d_is_cell : He.DefD := ⟨("is_cell", none), "is_cell", "is_cell", defArgs s_is_cell, defBody s_is_cell, defScope s_is_cell, [], []⟩
def d_is_column : He.DefD := ⟨("is_column", none), "is_column", "is_column", defArgs s_is_column, defBody s_is_column, defScope s_is_column, [], []⟩
def d_Stretch___init__ : He.DefD := ⟨("Stretch", some "__init__"), "__init__", "Stretch.__init__", defArgs s_Stretch___init__, defBody s_Stretch___init__, defScope s_Stretch___init__, [], []⟩
def d_Stretch___len__ : He.DefD := ⟨("Stretch", some "__len__"), "__len__", "Stretch.__len__", defArgs s_Stretch___len__, defBody s_Stretch___len__, defScope s_Stretch___len__, [], []⟩
def d_Web___init__ : He.DefD := ⟨("Web", some "__init__"), "__init__", "Web.__init__", defArgs s_Web___init__, defBody s_Web___init__, defScope s_Web___init__, [], [("closed", .bl false)]⟩
def d_Web_seats : He.DefD := ⟨("Web", some "seats"), "seats", "Web.seats", defArgs s_Web_seats, defBody s_Web_seats, defScope s_Web_seats, [], []⟩
def d_Web_is_seat : He.DefD := ⟨("Web", some "is_seat"), "is_seat", "Web.is_seat", defArgs s_Web_is_seat, defBody s_Web_is_seat, defScope s_Web_is_seat, [], []⟩
def d_Web_must_have : He.DefD := ⟨("Web", some "must_have"), "must_have", "Web.must_have", defArgs s_Web_must_have, defBody s_Web_must_have, defScope s_Web_must_have, [], []⟩
def d_Web_cell : He.DefD := ⟨("Web", some "cell"), "cell", "Web.cell", defArgs s_Web_cell, defBody s_Web_cell, defScope s_Web_cell, [], []⟩
def d_Web_neighbours : He.DefD := ⟨("Web", some "neighbours"), "neighbours", "Web.neighbours", defArgs s_Web_neighbours, defBody s_Web_neighbours, defScope s_Web_neighbours, [], []⟩
def d_Web_changed : He.DefD := ⟨("Web", some "changed"), "changed", "Web.changed", defArgs s_Web_changed, defBody s_Web_changed, defScope s_Web_changed, [], []⟩
def d_Field___init__ : He.DefD := ⟨("Field", some "__init__"), "__init__", "Field.__init__", defArgs s_Field___init__, defBody s_Field___init__, defScope s_Field___init__, [], []⟩
def d_Field_can_join : He.DefD := ⟨("Field", some "can_join"), "can_join", "Field.can_join", defArgs s_Field_can_join, defBody s_Field_can_join, defScope s_Field_can_join, [], []⟩
def d_Field_note : He.DefD := ⟨("Field", some "note"), "note", "Field.note", defArgs s_Field_note, defBody s_Field_note, defScope s_Field_note, [], []⟩
def d_Field_enter : He.DefD := ⟨("Field", some "enter"), "enter", "Field.enter", defArgs s_Field_enter, defBody s_Field_enter, defScope s_Field_enter, [], []⟩
def d_Field_step : He.DefD := ⟨("Field", some "step"), "step", "Field.step", defArgs s_Field_step, defBody s_Field_step, defScope s_Field_step, [], []⟩
def d_Field_put : He.DefD := ⟨("Field", some "put"), "put", "Field.put", defArgs s_Field_put, defBody s_Field_put, defScope s_Field_put, [], []⟩
def d_Field_leave : He.DefD := ⟨("Field", some "leave"), "leave", "Field.leave", defArgs s_Field_leave, defBody s_Field_leave, defScope s_Field_leave, [], []⟩
def d_Field_set_need : He.DefD := ⟨("Field", some "set_need"), "set_need", "Field.set_need", defArgs s_Field_set_need, defBody s_Field_set_need, defScope s_Field_set_need, [], []⟩
def d_Field_undo : He.DefD := ⟨("Field", some "undo"), "undo", "Field.undo", defArgs s_Field_undo, defBody s_Field_undo, defScope s_Field_undo, [], []⟩
def d_Field_fork : He.DefD := ⟨("Field", some "fork"), "fork", "Field.fork", defArgs s_Field_fork, defBody s_Field_fork, defScope s_Field_fork, [], []⟩
def d_Field_outcome : He.DefD := ⟨("Field", some "outcome"), "outcome", "Field.outcome", defArgs s_Field_outcome, defBody s_Field_outcome, defScope s_Field_outcome, [], []⟩
def d_Field_never : He.DefD := ⟨("Field", some "never"), "never", "Field.never", defArgs s_Field_never, defBody s_Field_never, defScope s_Field_never, [], []⟩
def d_replayed : He.DefD := ⟨("replayed", none), "replayed", "replayed", defArgs s_replayed, defBody s_replayed, defScope s_replayed, [], []⟩
def d__law_tape : He.DefD := ⟨("_law_tape", none), "_law_tape", "_law_tape", defArgs s__law_tape, defBody s__law_tape, defScope s__law_tape, [], []⟩
def d__law_pick : He.DefD := ⟨("_law_pick", none), "_law_pick", "_law_pick", defArgs s__law_pick, defBody s__law_pick, defScope s__law_pick, [], []⟩
def d__law_row_right : He.DefD := ⟨("_law_row_right", none), "_law_row_right", "_law_row_right", defArgs s__law_row_right, defBody s__law_row_right, defScope s__law_row_right, [], []⟩
def d__law_ring_right : He.DefD := ⟨("_law_ring_right", none), "_law_ring_right", "_law_ring_right", defArgs s__law_ring_right, defBody s__law_ring_right, defScope s__law_ring_right, [], []⟩
def d__law_replayed_right : He.DefD := ⟨("_law_replayed_right", none), "_law_replayed_right", "_law_replayed_right", defArgs s__law_replayed_right, defBody s__law_replayed_right, defScope s__law_replayed_right, [], []⟩
def d_law : He.DefD := ⟨("law", none), "law", "law", defArgs s_law, defBody s_law, defScope s_law, [], []⟩
def d_Stretch_columns : DefA := ⟨gtA "Stretch" "columns", "columns", "Stretch.columns", defArgs s_Stretch_columns, defBody s_Stretch_columns, defScope s_Stretch_columns⟩
def d_Field_web : DefA := ⟨gtA "Field" "web", "web", "Field.web", defArgs s_Field_web, defBody s_Field_web, defScope s_Field_web⟩
def d_Field_inside : DefA := ⟨gtA "Field" "inside", "inside", "Field.inside", defArgs s_Field_inside, defBody s_Field_inside, defScope s_Field_inside⟩
def d_Field_history : DefA := ⟨gtA "Field" "history", "history", "Field.history", defArgs s_Field_history, defBody s_Field_history, defScope s_Field_history⟩
def clsL : List Str := ["Frame", "Stretch", "Web", "Field"]
def lfa0 : List He.Fa := [.glo "is_whole", .glo "is_pair", .glo "are_pairs", .glo "Frame", .glo "is_cell", .glo "is_column", .glo "Stretch", .glo "Web", .glo "Field", .glo "replayed", .glo "_law_tape", .glo "_law_pick", .glo "_law_row_right", .glo "_law_ring_right", .glo "_law_replayed_right", .glo "law", .int "WIDEST" 3, .int "HIGHEST" 9, .free "len", .free "int", .free "tuple", .free "list", .free "sorted", .free "min", .free "max", .free "range", .free "enumerate", .free "isinstance", .free "bool", .cls "Frame"]
def lfa1 : List He.Fa := [.mkr "Frame", .noat "Frame" "width", .noat "Frame" "inner", .noat "Frame" "outer", .meth "Frame" "beside", .meth "Frame" "onward", .meth "Frame" "back", .cls "Stretch", .mkr "Stretch", .noat "Stretch" "frame", .noat "Stretch" "held", .meth "Stretch" "__len__", .cls "Web", .mkr "Web", .noat "Web" "stretch", .noat "Web" "closed", .meth "Web" "seats", .meth "Web" "is_seat", .meth "Web" "must_have", .meth "Web" "cell", .meth "Web" "neighbours", .meth "Web" "changed", .cls "Field", .mkr "Field", .noat "Field" "first", .noat "Field" "now", .noat "Field" "seated", .noat "Field" "events", .noat "Field" "before", .meth "Field" "can_join"]
def lfa2 : List He.Fa := [.meth "Field" "note", .meth "Field" "enter", .meth "Field" "step", .meth "Field" "put", .meth "Field" "leave", .meth "Field" "set_need", .meth "Field" "undo", .meth "Field" "fork", .meth "Field" "outcome", .meth "Field" "never"]
def lfa : List He.Fa := lfa0 ++ lfa1 ++ lfa2
def lfn0 : List He.DefD := [d_is_whole, d_is_pair, d_are_pairs, d_Frame___init__, d_Frame_beside, d_Frame_onward, d_Frame_back, d_is_cell, d_is_column, d_Stretch___init__, d_Stretch___len__, d_Web___init__, d_Web_seats, d_Web_is_seat, d_Web_must_have, d_Web_cell, d_Web_neighbours, d_Web_changed, d_Field___init__, d_Field_can_join, d_Field_note, d_Field_enter, d_Field_step, d_Field_put, d_Field_leave, d_Field_set_need, d_Field_undo, d_Field_fork, d_Field_outcome, d_Field_never]
def lfn1 : List He.DefD := [d_replayed, d__law_tape, d__law_pick, d__law_row_right, d__law_ring_right, d__law_replayed_right, d_law]
def lfn : List He.DefD := lfn0 ++ lfn1
def lck0 : List (Fr → Bool) := [noLst, isoB clsL, prB "Stretch" "columns", prB "Field" "web", prB "Field" "inside", prB "Field" "history", fun K => nilB (kwA ("Frame", some "__init__") "inner" K) K, fun K => nilB (kwA ("Frame", some "__init__") "outer" K) K]
def lck : List (Fr → Bool) := lck0
def lgt0 : List DefA := [d_Stretch_columns, d_Field_web, d_Field_inside, d_Field_history]
def lgt : List DefA := lgt0
def lwant0 : List PySem.Str := ["is_whole", "is_pair", "are_pairs", "Frame", "is_cell", "is_column", "Stretch", "Web", "Field", "replayed", "_law_tape", "_law_pick", "_law_row_right", "_law_ring_right", "_law_replayed_right", "law"]
def lwant : List PySem.Str := lwant0
def lk : Lk := ⟨4, lwant, lfa, lfn, lck, lgt⟩
def lnm0 : List PySem.Str := ["_wall", "SparkError", "BadWidth", "BadPairs", "BadColumns", "BadColumn", "BadCell", "OtherFrame", "TooShort", "NoSeat", "CannotJoin", "IsIn", "NotIn", "BadNeed", "Nothing", "WIDEST", "HIGHEST", "is_whole", "is_pair", "are_pairs", "Frame", "is_cell", "is_column", "Stretch", "Web", "Field", "replayed", "_law_tape", "_law_pick", "_law_row_right"]
def lnm1 : List PySem.Str := ["_law_ring_right", "_law_replayed_right"]
def lnm : List PySem.Str := lnm0 ++ lnm1
abbrev Rw : PySem.W.OpenRow := PySem.W.OpenLaw.row PySem.Challenge.rw_sparkrows_k79_fields_by_hand
def ob (s : PySem.W.SharedT) : AlM := lk.obsG (HandSHeadRun.getT s)
theorem ob_eq (s : PySem.W.SharedT) : ob s = lk.hook.obs s.abs := Lk.obs_eq (HandSHeadRun.getT_eq s)
abbrev qv : Program := PySem.W.view Rw.prog [36]
theorem run (w : World) : HandSHeadRun.RunEq Rw qv lk.hook ob 20000 lnm w := by
  intro os
  kernel_rfl
end K79
end Mini
end
section
set_option linter.all false
set_option maxRecDepth 100000
set_option maxHeartbeats 0
namespace Mini
namespace K79
open PySem PySem.Spec PyProof.Rows L2
def nmL0 : List Str := ["outer", "inner", "width", "held", "frame", "closed", "stretch", "__len__", "is_seat", "must_have", "back", "onward", "beside", "columns", "before", "events", "seated", "cell", "seats", "now", "first", "neighbours", "note", "can_join", "changed", "inside", "step", "fork", "outcome", "enter"]
def nmL1 : List Str := ["put", "leave", "set_need", "history", "web", "undo", "never"]
def nmL : List Str := nmL0 ++ nmL1
@[reducible] def a_is_whole (K : Fr) : Addr := He.fAd K ("is_whole", none)
@[reducible] def a_is_pair (K : Fr) : Addr := He.fAd K ("is_pair", none)
@[reducible] def a_are_pairs (K : Fr) : Addr := He.fAd K ("are_pairs", none)
@[reducible] def a_Frame___init__ (K : Fr) : Addr := He.fAd K ("Frame", some "__init__")
@[reducible] def a_Frame_beside (K : Fr) : Addr := He.fAd K ("Frame", some "beside")
@[reducible] def a_Frame_onward (K : Fr) : Addr := He.fAd K ("Frame", some "onward")
@[reducible] def a_Frame_back (K : Fr) : Addr := He.fAd K ("Frame", some "back")
@[reducible] def a_is_cell (K : Fr) : Addr := He.fAd K ("is_cell", none)
@[reducible] def a_is_column (K : Fr) : Addr := He.fAd K ("is_column", none)
@[reducible] def a_Stretch___init__ (K : Fr) : Addr := He.fAd K ("Stretch", some "__init__")
@[reducible] def a_Stretch_columns (K : Fr) : Addr := gtA "Stretch" "columns" K
@[reducible] def a_Stretch___len__ (K : Fr) : Addr := He.fAd K ("Stretch", some "__len__")
@[reducible] def a_Web___init__ (K : Fr) : Addr := He.fAd K ("Web", some "__init__")
@[reducible] def a_Web_seats (K : Fr) : Addr := He.fAd K ("Web", some "seats")
@[reducible] def a_Web_is_seat (K : Fr) : Addr := He.fAd K ("Web", some "is_seat")
@[reducible] def a_Web_must_have (K : Fr) : Addr := He.fAd K ("Web", some "must_have")
@[reducible] def a_Web_cell (K : Fr) : Addr := He.fAd K ("Web", some "cell")
@[reducible] def a_Web_neighbours (K : Fr) : Addr := He.fAd K ("Web", some "neighbours")
@[reducible] def a_Web_changed (K : Fr) : Addr := He.fAd K ("Web", some "changed")
@[reducible] def a_Field___init__ (K : Fr) : Addr := He.fAd K ("Field", some "__init__")
@[reducible] def a_Field_web (K : Fr) : Addr := gtA "Field" "web" K
@[reducible] def a_Field_inside (K : Fr) : Addr := gtA "Field" "inside" K
@[reducible] def a_Field_history (K : Fr) : Addr := gtA "Field" "history" K
@[reducible] def a_Field_can_join (K : Fr) : Addr := He.fAd K ("Field", some "can_join")
@[reducible] def a_Field_note (K : Fr) : Addr := He.fAd K ("Field", some "note")
@[reducible] def a_Field_enter (K : Fr) : Addr := He.fAd K ("Field", some "enter")
@[reducible] def a_Field_step (K : Fr) : Addr := He.fAd K ("Field", some "step")
@[reducible] def a_Field_put (K : Fr) : Addr := He.fAd K ("Field", some "put")
@[reducible] def a_Field_leave (K : Fr) : Addr := He.fAd K ("Field", some "leave")
@[reducible] def a_Field_set_need (K : Fr) : Addr := He.fAd K ("Field", some "set_need")
@[reducible] def a_Field_undo (K : Fr) : Addr := He.fAd K ("Field", some "undo")
@[reducible] def a_Field_fork (K : Fr) : Addr := He.fAd K ("Field", some "fork")
@[reducible] def a_Field_outcome (K : Fr) : Addr := He.fAd K ("Field", some "outcome")
@[reducible] def a_Field_never (K : Fr) : Addr := He.fAd K ("Field", some "never")
@[reducible] def a_replayed (K : Fr) : Addr := He.fAd K ("replayed", none)
@[reducible] def a__law_tape (K : Fr) : Addr := He.fAd K ("_law_tape", none)
@[reducible] def a__law_pick (K : Fr) : Addr := He.fAd K ("_law_pick", none)
@[reducible] def a__law_row_right (K : Fr) : Addr := He.fAd K ("_law_row_right", none)
@[reducible] def a__law_ring_right (K : Fr) : Addr := He.fAd K ("_law_ring_right", none)
@[reducible] def a__law_replayed_right (K : Fr) : Addr := He.fAd K ("_law_replayed_right", none)
@[reducible] def a_law (K : Fr) : Addr := He.fAd K ("law", none)
def tbl0 : List FnT := [⟨a_is_whole, ["value", "low", "high"]⟩, ⟨a_is_pair, ["value", "width", "is_inner"]⟩, ⟨a_are_pairs, ["value", "width", "is_inner"]⟩, ⟨a_Frame___init__, ["self", "width", "inner", "outer"]⟩, ⟨a_Frame_beside, ["self", "row"]⟩, ⟨a_Frame_onward, ["self", "row"]⟩, ⟨a_Frame_back, ["self", "row"]⟩, ⟨a_is_cell, ["value"]⟩, ⟨a_is_column, ["frame", "value"]⟩, ⟨a_Stretch___init__, ["self", "frame", "columns"]⟩, ⟨a_Stretch_columns, ["self"]⟩, ⟨a_Stretch___len__, ["self"]⟩, ⟨a_Web___init__, ["self", "stretch", "closed"]⟩, ⟨a_Web_seats, ["self"]⟩, ⟨a_Web_is_seat, ["self", "value"]⟩, ⟨a_Web_must_have, ["self", "value"]⟩, ⟨a_Web_cell, ["self", "seat"]⟩, ⟨a_Web_neighbours, ["self", "seat"]⟩, ⟨a_Web_changed, ["self", "seat", "cell"]⟩, ⟨a_Field___init__, ["self", "web"]⟩, ⟨a_Field_web, ["self"]⟩, ⟨a_Field_inside, ["self"]⟩, ⟨a_Field_history, ["self"]⟩, ⟨a_Field_can_join, ["self"]⟩, ⟨a_Field_note, ["self", "event"]⟩, ⟨a_Field_enter, ["self", "seat"]⟩, ⟨a_Field_step, ["self"]⟩, ⟨a_Field_put, ["self", "seat"]⟩, ⟨a_Field_leave, ["self", "seat"]⟩, ⟨a_Field_set_need, ["self", "seat", "need"]⟩]
def tbl1 : List FnT := [⟨a_Field_undo, ["self"]⟩, ⟨a_Field_fork, ["self"]⟩, ⟨a_Field_outcome, ["self"]⟩, ⟨a_Field_never, ["self"]⟩, ⟨a_replayed, ["web", "events"]⟩, ⟨a__law_tape, ["script", "start"]⟩, ⟨a__law_pick, ["tape", "many"]⟩, ⟨a__law_row_right, ["many"]⟩, ⟨a__law_ring_right, ["many"]⟩, ⟨a__law_replayed_right, ["many"]⟩, ⟨a_law, ["script"]⟩]
def tbl : List FnT := tbl0 ++ tbl1
@[reducible] def theLaw : Law := ⟨PySem.Challenge.pw_sparkrows_k79_fields_by_hand, lk, prog, tbl, clsL, nmL⟩
theorem fd_is_whole {K : Fr} {mg : Str → Option Value} (t : Tp theLaw K mg) : FunD K d_is_whole.name d_is_whole.qual d_is_whole.params d_is_whole.body d_is_whole.scope (d_is_whole.dvs K) (d_is_whole.kws K) (a_is_whole K) (fdAt K (a_is_whole K)) := t.def_ 0
theorem fd_is_pair {K : Fr} {mg : Str → Option Value} (t : Tp theLaw K mg) : FunD K d_is_pair.name d_is_pair.qual d_is_pair.params d_is_pair.body d_is_pair.scope (d_is_pair.dvs K) (d_is_pair.kws K) (a_is_pair K) (fdAt K (a_is_pair K)) := t.def_ 1
theorem fd_are_pairs {K : Fr} {mg : Str → Option Value} (t : Tp theLaw K mg) : FunD K d_are_pairs.name d_are_pairs.qual d_are_pairs.params d_are_pairs.body d_are_pairs.scope (d_are_pairs.dvs K) (d_are_pairs.kws K) (a_are_pairs K) (fdAt K (a_are_pairs K)) := t.def_ 2
theorem fd_Frame___init__ {K : Fr} {mg : Str → Option Value} (t : Tp theLaw K mg) : FunD K d_Frame___init__.name d_Frame___init__.qual d_Frame___init__.params d_Frame___init__.body d_Frame___init__.scope (d_Frame___init__.dvs K) (d_Frame___init__.kws K) (a_Frame___init__ K) (fdAt K (a_Frame___init__ K)) := t.def_ 3
theorem fd_Frame_beside {K : Fr} {mg : Str → Option Value} (t : Tp theLaw K mg) : FunD K d_Frame_beside.name d_Frame_beside.qual d_Frame_beside.params d_Frame_beside.body d_Frame_beside.scope (d_Frame_beside.dvs K) (d_Frame_beside.kws K) (a_Frame_beside K) (fdAt K (a_Frame_beside K)) := t.def_ 4
theorem fd_Frame_onward {K : Fr} {mg : Str → Option Value} (t : Tp theLaw K mg) : FunD K d_Frame_onward.name d_Frame_onward.qual d_Frame_onward.params d_Frame_onward.body d_Frame_onward.scope (d_Frame_onward.dvs K) (d_Frame_onward.kws K) (a_Frame_onward K) (fdAt K (a_Frame_onward K)) := t.def_ 5
theorem fd_Frame_back {K : Fr} {mg : Str → Option Value} (t : Tp theLaw K mg) : FunD K d_Frame_back.name d_Frame_back.qual d_Frame_back.params d_Frame_back.body d_Frame_back.scope (d_Frame_back.dvs K) (d_Frame_back.kws K) (a_Frame_back K) (fdAt K (a_Frame_back K)) := t.def_ 6
theorem fd_is_cell {K : Fr} {mg : Str → Option Value} (t : Tp theLaw K mg) : FunD K d_is_cell.name d_is_cell.qual d_is_cell.params d_is_cell.body d_is_cell.scope (d_is_cell.dvs K) (d_is_cell.kws K) (a_is_cell K) (fdAt K (a_is_cell K)) := t.def_ 7
theorem fd_is_column {K : Fr} {mg : Str → Option Value} (t : Tp theLaw K mg) : FunD K d_is_column.name d_is_column.qual d_is_column.params d_is_column.body d_is_column.scope (d_is_column.dvs K) (d_is_column.kws K) (a_is_column K) (fdAt K (a_is_column K)) := t.def_ 8
theorem fd_Stretch___init__ {K : Fr} {mg : Str → Option Value} (t : Tp theLaw K mg) : FunD K d_Stretch___init__.name d_Stretch___init__.qual d_Stretch___init__.params d_Stretch___init__.body d_Stretch___init__.scope (d_Stretch___init__.dvs K) (d_Stretch___init__.kws K) (a_Stretch___init__ K) (fdAt K (a_Stretch___init__ K)) := t.def_ 9
theorem fd_Stretch___len__ {K : Fr} {mg : Str → Option Value} (t : Tp theLaw K mg) : FunD K d_Stretch___len__.name d_Stretch___len__.qual d_Stretch___len__.params d_Stretch___len__.body d_Stretch___len__.scope (d_Stretch___len__.dvs K) (d_Stretch___len__.kws K) (a_Stretch___len__ K) (fdAt K (a_Stretch___len__ K)) := t.def_ 10
theorem fd_Web___init__ {K : Fr} {mg : Str → Option Value} (t : Tp theLaw K mg) : FunD K d_Web___init__.name d_Web___init__.qual d_Web___init__.params d_Web___init__.body d_Web___init__.scope (d_Web___init__.dvs K) (d_Web___init__.kws K) (a_Web___init__ K) (fdAt K (a_Web___init__ K)) := t.def_ 11
theorem fd_Web_seats {K : Fr} {mg : Str → Option Value} (t : Tp theLaw K mg) : FunD K d_Web_seats.name d_Web_seats.qual d_Web_seats.params d_Web_seats.body d_Web_seats.scope (d_Web_seats.dvs K) (d_Web_seats.kws K) (a_Web_seats K) (fdAt K (a_Web_seats K)) := t.def_ 12
theorem fd_Web_is_seat {K : Fr} {mg : Str → Option Value} (t : Tp theLaw K mg) : FunD K d_Web_is_seat.name d_Web_is_seat.qual d_Web_is_seat.params d_Web_is_seat.body d_Web_is_seat.scope (d_Web_is_seat.dvs K) (d_Web_is_seat.kws K) (a_Web_is_seat K) (fdAt K (a_Web_is_seat K)) := t.def_ 13
theorem fd_Web_must_have {K : Fr} {mg : Str → Option Value} (t : Tp theLaw K mg) : FunD K d_Web_must_have.name d_Web_must_have.qual d_Web_must_have.params d_Web_must_have.body d_Web_must_have.scope (d_Web_must_have.dvs K) (d_Web_must_have.kws K) (a_Web_must_have K) (fdAt K (a_Web_must_have K)) := t.def_ 14
theorem fd_Web_cell {K : Fr} {mg : Str → Option Value} (t : Tp theLaw K mg) : FunD K d_Web_cell.name d_Web_cell.qual d_Web_cell.params d_Web_cell.body d_Web_cell.scope (d_Web_cell.dvs K) (d_Web_cell.kws K) (a_Web_cell K) (fdAt K (a_Web_cell K)) := t.def_ 15
theorem fd_Web_neighbours {K : Fr} {mg : Str → Option Value} (t : Tp theLaw K mg) : FunD K d_Web_neighbours.name d_Web_neighbours.qual d_Web_neighbours.params d_Web_neighbours.body d_Web_neighbours.scope (d_Web_neighbours.dvs K) (d_Web_neighbours.kws K) (a_Web_neighbours K) (fdAt K (a_Web_neighbours K)) := t.def_ 16
theorem fd_Web_changed {K : Fr} {mg : Str → Option Value} (t : Tp theLaw K mg) : FunD K d_Web_changed.name d_Web_changed.qual d_Web_changed.params d_Web_changed.body d_Web_changed.scope (d_Web_changed.dvs K) (d_Web_changed.kws K) (a_Web_changed K) (fdAt K (a_Web_changed K)) := t.def_ 17
theorem fd_Field___init__ {K : Fr} {mg : Str → Option Value} (t : Tp theLaw K mg) : FunD K d_Field___init__.name d_Field___init__.qual d_Field___init__.params d_Field___init__.body d_Field___init__.scope (d_Field___init__.dvs K) (d_Field___init__.kws K) (a_Field___init__ K) (fdAt K (a_Field___init__ K)) := t.def_ 18
theorem fd_Field_can_join {K : Fr} {mg : Str → Option Value} (t : Tp theLaw K mg) : FunD K d_Field_can_join.name d_Field_can_join.qual d_Field_can_join.params d_Field_can_join.body d_Field_can_join.scope (d_Field_can_join.dvs K) (d_Field_can_join.kws K) (a_Field_can_join K) (fdAt K (a_Field_can_join K)) := t.def_ 19
theorem fd_Field_note {K : Fr} {mg : Str → Option Value} (t : Tp theLaw K mg) : FunD K d_Field_note.name d_Field_note.qual d_Field_note.params d_Field_note.body d_Field_note.scope (d_Field_note.dvs K) (d_Field_note.kws K) (a_Field_note K) (fdAt K (a_Field_note K)) := t.def_ 20
theorem fd_Field_enter {K : Fr} {mg : Str → Option Value} (t : Tp theLaw K mg) : FunD K d_Field_enter.name d_Field_enter.qual d_Field_enter.params d_Field_enter.body d_Field_enter.scope (d_Field_enter.dvs K) (d_Field_enter.kws K) (a_Field_enter K) (fdAt K (a_Field_enter K)) := t.def_ 21
theorem fd_Field_step {K : Fr} {mg : Str → Option Value} (t : Tp theLaw K mg) : FunD K d_Field_step.name d_Field_step.qual d_Field_step.params d_Field_step.body d_Field_step.scope (d_Field_step.dvs K) (d_Field_step.kws K) (a_Field_step K) (fdAt K (a_Field_step K)) := t.def_ 22
theorem fd_Field_put {K : Fr} {mg : Str → Option Value} (t : Tp theLaw K mg) : FunD K d_Field_put.name d_Field_put.qual d_Field_put.params d_Field_put.body d_Field_put.scope (d_Field_put.dvs K) (d_Field_put.kws K) (a_Field_put K) (fdAt K (a_Field_put K)) := t.def_ 23
theorem fd_Field_leave {K : Fr} {mg : Str → Option Value} (t : Tp theLaw K mg) : FunD K d_Field_leave.name d_Field_leave.qual d_Field_leave.params d_Field_leave.body d_Field_leave.scope (d_Field_leave.dvs K) (d_Field_leave.kws K) (a_Field_leave K) (fdAt K (a_Field_leave K)) := t.def_ 24
theorem fd_Field_set_need {K : Fr} {mg : Str → Option Value} (t : Tp theLaw K mg) : FunD K d_Field_set_need.name d_Field_set_need.qual d_Field_set_need.params d_Field_set_need.body d_Field_set_need.scope (d_Field_set_need.dvs K) (d_Field_set_need.kws K) (a_Field_set_need K) (fdAt K (a_Field_set_need K)) := t.def_ 25
theorem fd_Field_undo {K : Fr} {mg : Str → Option Value} (t : Tp theLaw K mg) : FunD K d_Field_undo.name d_Field_undo.qual d_Field_undo.params d_Field_undo.body d_Field_undo.scope (d_Field_undo.dvs K) (d_Field_undo.kws K) (a_Field_undo K) (fdAt K (a_Field_undo K)) := t.def_ 26
theorem fd_Field_fork {K : Fr} {mg : Str → Option Value} (t : Tp theLaw K mg) : FunD K d_Field_fork.name d_Field_fork.qual d_Field_fork.params d_Field_fork.body d_Field_fork.scope (d_Field_fork.dvs K) (d_Field_fork.kws K) (a_Field_fork K) (fdAt K (a_Field_fork K)) := t.def_ 27
theorem fd_Field_outcome {K : Fr} {mg : Str → Option Value} (t : Tp theLaw K mg) : FunD K d_Field_outcome.name d_Field_outcome.qual d_Field_outcome.params d_Field_outcome.body d_Field_outcome.scope (d_Field_outcome.dvs K) (d_Field_outcome.kws K) (a_Field_outcome K) (fdAt K (a_Field_outcome K)) := t.def_ 28
theorem fd_Field_never {K : Fr} {mg : Str → Option Value} (t : Tp theLaw K mg) : FunD K d_Field_never.name d_Field_never.qual d_Field_never.params d_Field_never.body d_Field_never.scope (d_Field_never.dvs K) (d_Field_never.kws K) (a_Field_never K) (fdAt K (a_Field_never K)) := t.def_ 29
theorem fd_replayed {K : Fr} {mg : Str → Option Value} (t : Tp theLaw K mg) : FunD K d_replayed.name d_replayed.qual d_replayed.params d_replayed.body d_replayed.scope (d_replayed.dvs K) (d_replayed.kws K) (a_replayed K) (fdAt K (a_replayed K)) := t.def_ 30
theorem fd__law_tape {K : Fr} {mg : Str → Option Value} (t : Tp theLaw K mg) : FunD K d__law_tape.name d__law_tape.qual d__law_tape.params d__law_tape.body d__law_tape.scope (d__law_tape.dvs K) (d__law_tape.kws K) (a__law_tape K) (fdAt K (a__law_tape K)) := t.def_ 31
theorem fd__law_pick {K : Fr} {mg : Str → Option Value} (t : Tp theLaw K mg) : FunD K d__law_pick.name d__law_pick.qual d__law_pick.params d__law_pick.body d__law_pick.scope (d__law_pick.dvs K) (d__law_pick.kws K) (a__law_pick K) (fdAt K (a__law_pick K)) := t.def_ 32
theorem fd__law_row_right {K : Fr} {mg : Str → Option Value} (t : Tp theLaw K mg) : FunD K d__law_row_right.name d__law_row_right.qual d__law_row_right.params d__law_row_right.body d__law_row_right.scope (d__law_row_right.dvs K) (d__law_row_right.kws K) (a__law_row_right K) (fdAt K (a__law_row_right K)) := t.def_ 33
theorem fd__law_ring_right {K : Fr} {mg : Str → Option Value} (t : Tp theLaw K mg) : FunD K d__law_ring_right.name d__law_ring_right.qual d__law_ring_right.params d__law_ring_right.body d__law_ring_right.scope (d__law_ring_right.dvs K) (d__law_ring_right.kws K) (a__law_ring_right K) (fdAt K (a__law_ring_right K)) := t.def_ 34
theorem fd__law_replayed_right {K : Fr} {mg : Str → Option Value} (t : Tp theLaw K mg) : FunD K d__law_replayed_right.name d__law_replayed_right.qual d__law_replayed_right.params d__law_replayed_right.body d__law_replayed_right.scope (d__law_replayed_right.dvs K) (d__law_replayed_right.kws K) (a__law_replayed_right K) (fdAt K (a__law_replayed_right K)) := t.def_ 35
theorem fd_law {K : Fr} {mg : Str → Option Value} (t : Tp theLaw K mg) : FunD K d_law.name d_law.qual d_law.params d_law.body d_law.scope (d_law.dvs K) (d_law.kws K) (a_law K) (fdAt K (a_law K)) := t.def_ 36
theorem fd_Stretch_columns {K : Fr} {mg : Str → Option Value} (t : Tp theLaw K mg) : FunD K d_Stretch_columns.name d_Stretch_columns.qual d_Stretch_columns.params d_Stretch_columns.body d_Stretch_columns.scope [] [] (a_Stretch_columns K) (fdAt K (a_Stretch_columns K)) := t.gt 0
theorem fd_Field_web {K : Fr} {mg : Str → Option Value} (t : Tp theLaw K mg) : FunD K d_Field_web.name d_Field_web.qual d_Field_web.params d_Field_web.body d_Field_web.scope [] [] (a_Field_web K) (fdAt K (a_Field_web K)) := t.gt 1
theorem fd_Field_inside {K : Fr} {mg : Str → Option Value} (t : Tp theLaw K mg) : FunD K d_Field_inside.name d_Field_inside.qual d_Field_inside.params d_Field_inside.body d_Field_inside.scope [] [] (a_Field_inside K) (fdAt K (a_Field_inside K)) := t.gt 2
theorem fd_Field_history {K : Fr} {mg : Str → Option Value} (t : Tp theLaw K mg) : FunD K d_Field_history.name d_Field_history.qual d_Field_history.params d_Field_history.body d_Field_history.scope [] [] (a_Field_history K) (fdAt K (a_Field_history K)) := t.gt 3
theorem b_is_whole {K : Fr} {mg : Str → Option Value} (t : Tp theLaw K mg) : Binds K (fdAt K (a_is_whole K)) ["value", "low", "high"] [] := (fd_is_whole t).bindsN fun _ _ _ _ _ _ us hl => match us, hl with | [_, _, _], _ => rfl
theorem b_is_pair {K : Fr} {mg : Str → Option Value} (t : Tp theLaw K mg) : Binds K (fdAt K (a_is_pair K)) ["value", "width", "is_inner"] [] := (fd_is_pair t).bindsN fun _ _ _ _ _ _ us hl => match us, hl with | [_, _, _], _ => rfl
theorem b_are_pairs {K : Fr} {mg : Str → Option Value} (t : Tp theLaw K mg) : Binds K (fdAt K (a_are_pairs K)) ["value", "width", "is_inner"] [] := (fd_are_pairs t).bindsN fun _ _ _ _ _ _ us hl => match us, hl with | [_, _, _], _ => rfl
theorem b_Frame___init__ {K : Fr} {mg : Str → Option Value} (t : Tp theLaw K mg) : ∃ ds, Vals ((d_Frame___init__.kws K).map (·.2)) ds ∧ Binds K (fdAt K (a_Frame___init__ K)) ["self", "width", "inner", "outer"] ds := (fd_Frame___init__ t).binds0 2 (by simp [He.DefD.kws, d_Frame___init__]) rfl fun _ _ _ _ _ _ us ks h1 h2 => match us, h1, ks, h2 with | [_, _], _, [_, _], _ => ⟨_, _, _, _, _, _, rfl, rfl, _, _, _, _, _, _, rfl, rfl, rfl⟩
theorem b_Frame_beside {K : Fr} {mg : Str → Option Value} (t : Tp theLaw K mg) : Binds K (fdAt K (a_Frame_beside K)) ["self", "row"] [] := (fd_Frame_beside t).bindsN fun _ _ _ _ _ _ us hl => match us, hl with | [_, _], _ => rfl
theorem b_Frame_onward {K : Fr} {mg : Str → Option Value} (t : Tp theLaw K mg) : Binds K (fdAt K (a_Frame_onward K)) ["self", "row"] [] := (fd_Frame_onward t).bindsN fun _ _ _ _ _ _ us hl => match us, hl with | [_, _], _ => rfl
theorem b_Frame_back {K : Fr} {mg : Str → Option Value} (t : Tp theLaw K mg) : Binds K (fdAt K (a_Frame_back K)) ["self", "row"] [] := (fd_Frame_back t).bindsN fun _ _ _ _ _ _ us hl => match us, hl with | [_, _], _ => rfl
theorem b_is_cell {K : Fr} {mg : Str → Option Value} (t : Tp theLaw K mg) : Binds K (fdAt K (a_is_cell K)) ["value"] [] := (fd_is_cell t).bindsN fun _ _ _ _ _ _ us hl => match us, hl with | [_], _ => rfl
theorem b_is_column {K : Fr} {mg : Str → Option Value} (t : Tp theLaw K mg) : Binds K (fdAt K (a_is_column K)) ["frame", "value"] [] := (fd_is_column t).bindsN fun _ _ _ _ _ _ us hl => match us, hl with | [_, _], _ => rfl
theorem b_Stretch___init__ {K : Fr} {mg : Str → Option Value} (t : Tp theLaw K mg) : Binds K (fdAt K (a_Stretch___init__ K)) ["self", "frame", "columns"] [] := (fd_Stretch___init__ t).bindsN fun _ _ _ _ _ _ us hl => match us, hl with | [_, _, _], _ => rfl
theorem b_Stretch_columns {K : Fr} {mg : Str → Option Value} (t : Tp theLaw K mg) : Binds K (fdAt K (a_Stretch_columns K)) ["self"] [] := (fd_Stretch_columns t).bindsN fun _ _ _ _ _ _ us hl => match us, hl with | [_], _ => rfl
theorem b_Stretch___len__ {K : Fr} {mg : Str → Option Value} (t : Tp theLaw K mg) : Binds K (fdAt K (a_Stretch___len__ K)) ["self"] [] := (fd_Stretch___len__ t).bindsN fun _ _ _ _ _ _ us hl => match us, hl with | [_], _ => rfl
theorem b_Web___init__ {K : Fr} {mg : Str → Option Value} (t : Tp theLaw K mg) : ∃ ds, Vals ((d_Web___init__.kws K).map (·.2)) ds ∧ Binds K (fdAt K (a_Web___init__ K)) ["self", "stretch", "closed"] ds := (fd_Web___init__ t).binds0 2 (by simp [He.DefD.kws, d_Web___init__]) rfl fun _ _ _ _ _ _ us ks h1 h2 => match us, h1, ks, h2 with | [_, _], _, [_], _ => ⟨_, _, _, _, _, _, rfl, rfl, rfl⟩
theorem b_Web_seats {K : Fr} {mg : Str → Option Value} (t : Tp theLaw K mg) : Binds K (fdAt K (a_Web_seats K)) ["self"] [] := (fd_Web_seats t).bindsN fun _ _ _ _ _ _ us hl => match us, hl with | [_], _ => rfl
theorem b_Web_is_seat {K : Fr} {mg : Str → Option Value} (t : Tp theLaw K mg) : Binds K (fdAt K (a_Web_is_seat K)) ["self", "value"] [] := (fd_Web_is_seat t).bindsN fun _ _ _ _ _ _ us hl => match us, hl with | [_, _], _ => rfl
theorem b_Web_must_have {K : Fr} {mg : Str → Option Value} (t : Tp theLaw K mg) : Binds K (fdAt K (a_Web_must_have K)) ["self", "value"] [] := (fd_Web_must_have t).bindsN fun _ _ _ _ _ _ us hl => match us, hl with | [_, _], _ => rfl
theorem b_Web_cell {K : Fr} {mg : Str → Option Value} (t : Tp theLaw K mg) : Binds K (fdAt K (a_Web_cell K)) ["self", "seat"] [] := (fd_Web_cell t).bindsN fun _ _ _ _ _ _ us hl => match us, hl with | [_, _], _ => rfl
theorem b_Web_neighbours {K : Fr} {mg : Str → Option Value} (t : Tp theLaw K mg) : Binds K (fdAt K (a_Web_neighbours K)) ["self", "seat"] [] := (fd_Web_neighbours t).bindsN fun _ _ _ _ _ _ us hl => match us, hl with | [_, _], _ => rfl
theorem b_Web_changed {K : Fr} {mg : Str → Option Value} (t : Tp theLaw K mg) : Binds K (fdAt K (a_Web_changed K)) ["self", "seat", "cell"] [] := (fd_Web_changed t).bindsN fun _ _ _ _ _ _ us hl => match us, hl with | [_, _, _], _ => rfl
theorem b_Field___init__ {K : Fr} {mg : Str → Option Value} (t : Tp theLaw K mg) : Binds K (fdAt K (a_Field___init__ K)) ["self", "web"] [] := (fd_Field___init__ t).bindsN fun _ _ _ _ _ _ us hl => match us, hl with | [_, _], _ => rfl
theorem b_Field_web {K : Fr} {mg : Str → Option Value} (t : Tp theLaw K mg) : Binds K (fdAt K (a_Field_web K)) ["self"] [] := (fd_Field_web t).bindsN fun _ _ _ _ _ _ us hl => match us, hl with | [_], _ => rfl
theorem b_Field_inside {K : Fr} {mg : Str → Option Value} (t : Tp theLaw K mg) : Binds K (fdAt K (a_Field_inside K)) ["self"] [] := (fd_Field_inside t).bindsN fun _ _ _ _ _ _ us hl => match us, hl with | [_], _ => rfl
theorem b_Field_history {K : Fr} {mg : Str → Option Value} (t : Tp theLaw K mg) : Binds K (fdAt K (a_Field_history K)) ["self"] [] := (fd_Field_history t).bindsN fun _ _ _ _ _ _ us hl => match us, hl with | [_], _ => rfl
theorem b_Field_can_join {K : Fr} {mg : Str → Option Value} (t : Tp theLaw K mg) : Binds K (fdAt K (a_Field_can_join K)) ["self"] [] := (fd_Field_can_join t).bindsN fun _ _ _ _ _ _ us hl => match us, hl with | [_], _ => rfl
theorem b_Field_note {K : Fr} {mg : Str → Option Value} (t : Tp theLaw K mg) : Binds K (fdAt K (a_Field_note K)) ["self", "event"] [] := (fd_Field_note t).bindsN fun _ _ _ _ _ _ us hl => match us, hl with | [_, _], _ => rfl
theorem b_Field_enter {K : Fr} {mg : Str → Option Value} (t : Tp theLaw K mg) : Binds K (fdAt K (a_Field_enter K)) ["self", "seat"] [] := (fd_Field_enter t).bindsN fun _ _ _ _ _ _ us hl => match us, hl with | [_, _], _ => rfl
theorem b_Field_step {K : Fr} {mg : Str → Option Value} (t : Tp theLaw K mg) : Binds K (fdAt K (a_Field_step K)) ["self"] [] := (fd_Field_step t).bindsN fun _ _ _ _ _ _ us hl => match us, hl with | [_], _ => rfl
theorem b_Field_put {K : Fr} {mg : Str → Option Value} (t : Tp theLaw K mg) : Binds K (fdAt K (a_Field_put K)) ["self", "seat"] [] := (fd_Field_put t).bindsN fun _ _ _ _ _ _ us hl => match us, hl with | [_, _], _ => rfl
theorem b_Field_leave {K : Fr} {mg : Str → Option Value} (t : Tp theLaw K mg) : Binds K (fdAt K (a_Field_leave K)) ["self", "seat"] [] := (fd_Field_leave t).bindsN fun _ _ _ _ _ _ us hl => match us, hl with | [_, _], _ => rfl
theorem b_Field_set_need {K : Fr} {mg : Str → Option Value} (t : Tp theLaw K mg) : Binds K (fdAt K (a_Field_set_need K)) ["self", "seat", "need"] [] := (fd_Field_set_need t).bindsN fun _ _ _ _ _ _ us hl => match us, hl with | [_, _, _], _ => rfl
theorem b_Field_undo {K : Fr} {mg : Str → Option Value} (t : Tp theLaw K mg) : Binds K (fdAt K (a_Field_undo K)) ["self"] [] := (fd_Field_undo t).bindsN fun _ _ _ _ _ _ us hl => match us, hl with | [_], _ => rfl
theorem b_Field_fork {K : Fr} {mg : Str → Option Value} (t : Tp theLaw K mg) : Binds K (fdAt K (a_Field_fork K)) ["self"] [] := (fd_Field_fork t).bindsN fun _ _ _ _ _ _ us hl => match us, hl with | [_], _ => rfl
theorem b_Field_outcome {K : Fr} {mg : Str → Option Value} (t : Tp theLaw K mg) : Binds K (fdAt K (a_Field_outcome K)) ["self"] [] := (fd_Field_outcome t).bindsN fun _ _ _ _ _ _ us hl => match us, hl with | [_], _ => rfl
theorem b_Field_never {K : Fr} {mg : Str → Option Value} (t : Tp theLaw K mg) : Binds K (fdAt K (a_Field_never K)) ["self"] [] := (fd_Field_never t).bindsN fun _ _ _ _ _ _ us hl => match us, hl with | [_], _ => rfl
theorem b_replayed {K : Fr} {mg : Str → Option Value} (t : Tp theLaw K mg) : Binds K (fdAt K (a_replayed K)) ["web", "events"] [] := (fd_replayed t).bindsN fun _ _ _ _ _ _ us hl => match us, hl with | [_, _], _ => rfl
theorem b__law_tape {K : Fr} {mg : Str → Option Value} (t : Tp theLaw K mg) : Binds K (fdAt K (a__law_tape K)) ["script", "start"] [] := (fd__law_tape t).bindsN fun _ _ _ _ _ _ us hl => match us, hl with | [_, _], _ => rfl
theorem b__law_pick {K : Fr} {mg : Str → Option Value} (t : Tp theLaw K mg) : Binds K (fdAt K (a__law_pick K)) ["tape", "many"] [] := (fd__law_pick t).bindsN fun _ _ _ _ _ _ us hl => match us, hl with | [_, _], _ => rfl
theorem b__law_row_right {K : Fr} {mg : Str → Option Value} (t : Tp theLaw K mg) : Binds K (fdAt K (a__law_row_right K)) ["many"] [] := (fd__law_row_right t).bindsN fun _ _ _ _ _ _ us hl => match us, hl with | [_], _ => rfl
theorem b__law_ring_right {K : Fr} {mg : Str → Option Value} (t : Tp theLaw K mg) : Binds K (fdAt K (a__law_ring_right K)) ["many"] [] := (fd__law_ring_right t).bindsN fun _ _ _ _ _ _ us hl => match us, hl with | [_], _ => rfl
theorem b__law_replayed_right {K : Fr} {mg : Str → Option Value} (t : Tp theLaw K mg) : Binds K (fdAt K (a__law_replayed_right K)) ["many"] [] := (fd__law_replayed_right t).bindsN fun _ _ _ _ _ _ us hl => match us, hl with | [_], _ => rfl
theorem b_law {K : Fr} {mg : Str → Option Value} (t : Tp theLaw K mg) : Binds K (fdAt K (a_law K)) ["script"] [] := (fd_law t).bindsN fun _ _ _ _ _ _ us hl => match us, hl with | [_], _ => rfl
theorem cls_ok {K : Fr} {mg : Str → Option Value} (t : Tp theLaw K mg) : ∀ (c : Nat) (cd : Cls), prog.cls[c]? = some cd → L2.Cls K (He.ga K (clsL.getD c ""))
  | 0, _, _ => t.cls 29
  | 1, _, _ => t.cls 37
  | 2, _, _ => t.cls 42
  | 3, _, _ => t.cls 52
  | _n + 4, _, h => by cases h
theorem na_ok {K : Fr} {mg : Str → Option Value} (t : Tp theLaw K mg) : ∀ (c : Nat) (cd : Cls) (f : Nat), prog.cls[c]? = some cd → f ∈ cd.flds → NoAttr K (He.ga K (clsL.getD c "")) (nmL.getD f "")
  | 0, _, f, h, hf => by
    cases h
    simp only [c_Frame, List.mem_cons, List.not_mem_nil, or_false] at hf
    rcases hf with rfl | rfl | rfl
    · exact t.noat 31
    · exact t.noat 32
    · exact t.noat 33
  | 1, _, f, h, hf => by
    cases h
    simp only [c_Stretch, List.mem_cons, List.not_mem_nil, or_false] at hf
    rcases hf with rfl | rfl
    · exact t.noat 39
    · exact t.noat 40
  | 2, _, f, h, hf => by
    cases h
    simp only [c_Web, List.mem_cons, List.not_mem_nil, or_false] at hf
    rcases hf with rfl | rfl
    · exact t.noat 44
    · exact t.noat 45
  | 3, _, f, h, hf => by
    cases h
    simp only [c_Field, List.mem_cons, List.not_mem_nil, or_false] at hf
    rcases hf with rfl | rfl | rfl | rfl | rfl
    · exact t.noat 54
    · exact t.noat 55
    · exact t.noat 56
    · exact t.noat 57
    · exact t.noat 58
  | _n + 4, _, _, h, _ => by cases h
theorem cls_all {p : Cls → Prop} (h : ∀ cd ∈ prog.cls, p cd) : ∀ (c : Nat) (cd : Cls), prog.cls[c]? = some cd → p cd := fun c cd e => h cd (List.mem_of_getElem? e)
theorem zok {K : Fr} {mg : Str → Option Value} (t : Tp theLaw K mg) {w : World} : Zok (theLaw.Z w K) where
  cls := cls_ok t
  na := na_ok t
  inj := fun c cd f g e => (cls_all (p := fun cd => ∀ f ∈ cd.flds, ∀ g ∈ cd.flds, nmL.getD f "" = nmL.getD g "" → f = g) (by decide +kernel) c cd e f · g ·)
  nd := cls_all (p := fun cd => cd.flds.Nodup) (by decide +kernel)
  few := cls_all (p := fun cd => cd.flds.length ≤ 100) (by decide +kernel)
theorem iso {K : Fr} {mg : Str → Option Value} (t : Tp theLaw K mg) {w : World} : IsOk (theLaw.Z w K) := t.iso 1 (by decide +kernel) rfl (cls_ok t)
theorem mo1_Frame_beside : ∀ (c : Nat) (cd : Cls) (g : Nat), prog.cls[c]? = some cd → cd.meths.lookup 12 = some g → c = 0 ∧ g = 4
  | 0, _, _, h, hg => by cases h; cases hg; exact ⟨rfl, rfl⟩
  | 1, _, _, h, hg => by cases h; cases hg
  | 2, _, _, h, hg => by cases h; cases hg
  | 3, _, _, h, hg => by cases h; cases hg
  | _n + 4, _, _, h, _ => by cases h
theorem mo_Frame_beside {K : Fr} {mg : Str → Option Value} (t : Tp theLaw K mg) {w : World} : MethOk (theLaw.Z w K) K 12 "beside" 0 4 (a_Frame_beside K) where
  one := mo1_Frame_beside
  no := fun c cd f e => (cls_all (p := fun cd => ∀ f ∈ cd.flds, nmL.getD f "" ≠ ("beside" : Str)) (by decide +kernel) c cd e f ·)
  cls := t.cls 29
  at_ := t.meth 34
theorem mo1_Frame_onward : ∀ (c : Nat) (cd : Cls) (g : Nat), prog.cls[c]? = some cd → cd.meths.lookup 11 = some g → c = 0 ∧ g = 5
  | 0, _, _, h, hg => by cases h; cases hg; exact ⟨rfl, rfl⟩
  | 1, _, _, h, hg => by cases h; cases hg
  | 2, _, _, h, hg => by cases h; cases hg
  | 3, _, _, h, hg => by cases h; cases hg
  | _n + 4, _, _, h, _ => by cases h
theorem mo_Frame_onward {K : Fr} {mg : Str → Option Value} (t : Tp theLaw K mg) {w : World} : MethOk (theLaw.Z w K) K 11 "onward" 0 5 (a_Frame_onward K) where
  one := mo1_Frame_onward
  no := fun c cd f e => (cls_all (p := fun cd => ∀ f ∈ cd.flds, nmL.getD f "" ≠ ("onward" : Str)) (by decide +kernel) c cd e f ·)
  cls := t.cls 29
  at_ := t.meth 35
theorem mo1_Frame_back : ∀ (c : Nat) (cd : Cls) (g : Nat), prog.cls[c]? = some cd → cd.meths.lookup 10 = some g → c = 0 ∧ g = 6
  | 0, _, _, h, hg => by cases h; cases hg; exact ⟨rfl, rfl⟩
  | 1, _, _, h, hg => by cases h; cases hg
  | 2, _, _, h, hg => by cases h; cases hg
  | 3, _, _, h, hg => by cases h; cases hg
  | _n + 4, _, _, h, _ => by cases h
theorem mo_Frame_back {K : Fr} {mg : Str → Option Value} (t : Tp theLaw K mg) {w : World} : MethOk (theLaw.Z w K) K 10 "back" 0 6 (a_Frame_back K) where
  one := mo1_Frame_back
  no := fun c cd f e => (cls_all (p := fun cd => ∀ f ∈ cd.flds, nmL.getD f "" ≠ ("back" : Str)) (by decide +kernel) c cd e f ·)
  cls := t.cls 29
  at_ := t.meth 36
theorem mo1_Stretch___len__ : ∀ (c : Nat) (cd : Cls) (g : Nat), prog.cls[c]? = some cd → cd.meths.lookup 7 = some g → c = 1 ∧ g = 11
  | 0, _, _, h, hg => by cases h; cases hg
  | 1, _, _, h, hg => by cases h; cases hg; exact ⟨rfl, rfl⟩
  | 2, _, _, h, hg => by cases h; cases hg
  | 3, _, _, h, hg => by cases h; cases hg
  | _n + 4, _, _, h, _ => by cases h
theorem mo_Stretch___len__ {K : Fr} {mg : Str → Option Value} (t : Tp theLaw K mg) {w : World} : MethOk (theLaw.Z w K) K 7 "__len__" 1 11 (a_Stretch___len__ K) where
  one := mo1_Stretch___len__
  no := fun c cd f e => (cls_all (p := fun cd => ∀ f ∈ cd.flds, nmL.getD f "" ≠ ("__len__" : Str)) (by decide +kernel) c cd e f ·)
  cls := t.cls 37
  at_ := t.meth 41
theorem mo1_Web_seats : ∀ (c : Nat) (cd : Cls) (g : Nat), prog.cls[c]? = some cd → cd.meths.lookup 18 = some g → c = 2 ∧ g = 13
  | 0, _, _, h, hg => by cases h; cases hg
  | 1, _, _, h, hg => by cases h; cases hg
  | 2, _, _, h, hg => by cases h; cases hg; exact ⟨rfl, rfl⟩
  | 3, _, _, h, hg => by cases h; cases hg
  | _n + 4, _, _, h, _ => by cases h
theorem mo_Web_seats {K : Fr} {mg : Str → Option Value} (t : Tp theLaw K mg) {w : World} : MethOk (theLaw.Z w K) K 18 "seats" 2 13 (a_Web_seats K) where
  one := mo1_Web_seats
  no := fun c cd f e => (cls_all (p := fun cd => ∀ f ∈ cd.flds, nmL.getD f "" ≠ ("seats" : Str)) (by decide +kernel) c cd e f ·)
  cls := t.cls 42
  at_ := t.meth 46
theorem mo1_Web_is_seat : ∀ (c : Nat) (cd : Cls) (g : Nat), prog.cls[c]? = some cd → cd.meths.lookup 8 = some g → c = 2 ∧ g = 14
  | 0, _, _, h, hg => by cases h; cases hg
  | 1, _, _, h, hg => by cases h; cases hg
  | 2, _, _, h, hg => by cases h; cases hg; exact ⟨rfl, rfl⟩
  | 3, _, _, h, hg => by cases h; cases hg
  | _n + 4, _, _, h, _ => by cases h
theorem mo_Web_is_seat {K : Fr} {mg : Str → Option Value} (t : Tp theLaw K mg) {w : World} : MethOk (theLaw.Z w K) K 8 "is_seat" 2 14 (a_Web_is_seat K) where
  one := mo1_Web_is_seat
  no := fun c cd f e => (cls_all (p := fun cd => ∀ f ∈ cd.flds, nmL.getD f "" ≠ ("is_seat" : Str)) (by decide +kernel) c cd e f ·)
  cls := t.cls 42
  at_ := t.meth 47
theorem mo1_Web_must_have : ∀ (c : Nat) (cd : Cls) (g : Nat), prog.cls[c]? = some cd → cd.meths.lookup 9 = some g → c = 2 ∧ g = 15
  | 0, _, _, h, hg => by cases h; cases hg
  | 1, _, _, h, hg => by cases h; cases hg
  | 2, _, _, h, hg => by cases h; cases hg; exact ⟨rfl, rfl⟩
  | 3, _, _, h, hg => by cases h; cases hg
  | _n + 4, _, _, h, _ => by cases h
theorem mo_Web_must_have {K : Fr} {mg : Str → Option Value} (t : Tp theLaw K mg) {w : World} : MethOk (theLaw.Z w K) K 9 "must_have" 2 15 (a_Web_must_have K) where
  one := mo1_Web_must_have
  no := fun c cd f e => (cls_all (p := fun cd => ∀ f ∈ cd.flds, nmL.getD f "" ≠ ("must_have" : Str)) (by decide +kernel) c cd e f ·)
  cls := t.cls 42
  at_ := t.meth 48
theorem mo1_Web_cell : ∀ (c : Nat) (cd : Cls) (g : Nat), prog.cls[c]? = some cd → cd.meths.lookup 17 = some g → c = 2 ∧ g = 16
  | 0, _, _, h, hg => by cases h; cases hg
  | 1, _, _, h, hg => by cases h; cases hg
  | 2, _, _, h, hg => by cases h; cases hg; exact ⟨rfl, rfl⟩
  | 3, _, _, h, hg => by cases h; cases hg
  | _n + 4, _, _, h, _ => by cases h
theorem mo_Web_cell {K : Fr} {mg : Str → Option Value} (t : Tp theLaw K mg) {w : World} : MethOk (theLaw.Z w K) K 17 "cell" 2 16 (a_Web_cell K) where
  one := mo1_Web_cell
  no := fun c cd f e => (cls_all (p := fun cd => ∀ f ∈ cd.flds, nmL.getD f "" ≠ ("cell" : Str)) (by decide +kernel) c cd e f ·)
  cls := t.cls 42
  at_ := t.meth 49
theorem mo1_Web_neighbours : ∀ (c : Nat) (cd : Cls) (g : Nat), prog.cls[c]? = some cd → cd.meths.lookup 21 = some g → c = 2 ∧ g = 17
  | 0, _, _, h, hg => by cases h; cases hg
  | 1, _, _, h, hg => by cases h; cases hg
  | 2, _, _, h, hg => by cases h; cases hg; exact ⟨rfl, rfl⟩
  | 3, _, _, h, hg => by cases h; cases hg
  | _n + 4, _, _, h, _ => by cases h
theorem mo_Web_neighbours {K : Fr} {mg : Str → Option Value} (t : Tp theLaw K mg) {w : World} : MethOk (theLaw.Z w K) K 21 "neighbours" 2 17 (a_Web_neighbours K) where
  one := mo1_Web_neighbours
  no := fun c cd f e => (cls_all (p := fun cd => ∀ f ∈ cd.flds, nmL.getD f "" ≠ ("neighbours" : Str)) (by decide +kernel) c cd e f ·)
  cls := t.cls 42
  at_ := t.meth 50
theorem mo1_Web_changed : ∀ (c : Nat) (cd : Cls) (g : Nat), prog.cls[c]? = some cd → cd.meths.lookup 24 = some g → c = 2 ∧ g = 18
  | 0, _, _, h, hg => by cases h; cases hg
  | 1, _, _, h, hg => by cases h; cases hg
  | 2, _, _, h, hg => by cases h; cases hg; exact ⟨rfl, rfl⟩
  | 3, _, _, h, hg => by cases h; cases hg
  | _n + 4, _, _, h, _ => by cases h
theorem mo_Web_changed {K : Fr} {mg : Str → Option Value} (t : Tp theLaw K mg) {w : World} : MethOk (theLaw.Z w K) K 24 "changed" 2 18 (a_Web_changed K) where
  one := mo1_Web_changed
  no := fun c cd f e => (cls_all (p := fun cd => ∀ f ∈ cd.flds, nmL.getD f "" ≠ ("changed" : Str)) (by decide +kernel) c cd e f ·)
  cls := t.cls 42
  at_ := t.meth 51
theorem mo1_Field_can_join : ∀ (c : Nat) (cd : Cls) (g : Nat), prog.cls[c]? = some cd → cd.meths.lookup 23 = some g → c = 3 ∧ g = 23
  | 0, _, _, h, hg => by cases h; cases hg
  | 1, _, _, h, hg => by cases h; cases hg
  | 2, _, _, h, hg => by cases h; cases hg
  | 3, _, _, h, hg => by cases h; cases hg; exact ⟨rfl, rfl⟩
  | _n + 4, _, _, h, _ => by cases h
theorem mo_Field_can_join {K : Fr} {mg : Str → Option Value} (t : Tp theLaw K mg) {w : World} : MethOk (theLaw.Z w K) K 23 "can_join" 3 23 (a_Field_can_join K) where
  one := mo1_Field_can_join
  no := fun c cd f e => (cls_all (p := fun cd => ∀ f ∈ cd.flds, nmL.getD f "" ≠ ("can_join" : Str)) (by decide +kernel) c cd e f ·)
  cls := t.cls 52
  at_ := t.meth 59
theorem mo1_Field_note : ∀ (c : Nat) (cd : Cls) (g : Nat), prog.cls[c]? = some cd → cd.meths.lookup 22 = some g → c = 3 ∧ g = 24
  | 0, _, _, h, hg => by cases h; cases hg
  | 1, _, _, h, hg => by cases h; cases hg
  | 2, _, _, h, hg => by cases h; cases hg
  | 3, _, _, h, hg => by cases h; cases hg; exact ⟨rfl, rfl⟩
  | _n + 4, _, _, h, _ => by cases h
theorem mo_Field_note {K : Fr} {mg : Str → Option Value} (t : Tp theLaw K mg) {w : World} : MethOk (theLaw.Z w K) K 22 "note" 3 24 (a_Field_note K) where
  one := mo1_Field_note
  no := fun c cd f e => (cls_all (p := fun cd => ∀ f ∈ cd.flds, nmL.getD f "" ≠ ("note" : Str)) (by decide +kernel) c cd e f ·)
  cls := t.cls 52
  at_ := t.meth 60
theorem mo1_Field_enter : ∀ (c : Nat) (cd : Cls) (g : Nat), prog.cls[c]? = some cd → cd.meths.lookup 29 = some g → c = 3 ∧ g = 25
  | 0, _, _, h, hg => by cases h; cases hg
  | 1, _, _, h, hg => by cases h; cases hg
  | 2, _, _, h, hg => by cases h; cases hg
  | 3, _, _, h, hg => by cases h; cases hg; exact ⟨rfl, rfl⟩
  | _n + 4, _, _, h, _ => by cases h
theorem mo_Field_enter {K : Fr} {mg : Str → Option Value} (t : Tp theLaw K mg) {w : World} : MethOk (theLaw.Z w K) K 29 "enter" 3 25 (a_Field_enter K) where
  one := mo1_Field_enter
  no := fun c cd f e => (cls_all (p := fun cd => ∀ f ∈ cd.flds, nmL.getD f "" ≠ ("enter" : Str)) (by decide +kernel) c cd e f ·)
  cls := t.cls 52
  at_ := t.meth 61
theorem mo1_Field_step : ∀ (c : Nat) (cd : Cls) (g : Nat), prog.cls[c]? = some cd → cd.meths.lookup 26 = some g → c = 3 ∧ g = 26
  | 0, _, _, h, hg => by cases h; cases hg
  | 1, _, _, h, hg => by cases h; cases hg
  | 2, _, _, h, hg => by cases h; cases hg
  | 3, _, _, h, hg => by cases h; cases hg; exact ⟨rfl, rfl⟩
  | _n + 4, _, _, h, _ => by cases h
theorem mo_Field_step {K : Fr} {mg : Str → Option Value} (t : Tp theLaw K mg) {w : World} : MethOk (theLaw.Z w K) K 26 "step" 3 26 (a_Field_step K) where
  one := mo1_Field_step
  no := fun c cd f e => (cls_all (p := fun cd => ∀ f ∈ cd.flds, nmL.getD f "" ≠ ("step" : Str)) (by decide +kernel) c cd e f ·)
  cls := t.cls 52
  at_ := t.meth 62
theorem mo1_Field_put : ∀ (c : Nat) (cd : Cls) (g : Nat), prog.cls[c]? = some cd → cd.meths.lookup 30 = some g → c = 3 ∧ g = 27
  | 0, _, _, h, hg => by cases h; cases hg
  | 1, _, _, h, hg => by cases h; cases hg
  | 2, _, _, h, hg => by cases h; cases hg
  | 3, _, _, h, hg => by cases h; cases hg; exact ⟨rfl, rfl⟩
  | _n + 4, _, _, h, _ => by cases h
theorem mo_Field_put {K : Fr} {mg : Str → Option Value} (t : Tp theLaw K mg) {w : World} : MethOk (theLaw.Z w K) K 30 "put" 3 27 (a_Field_put K) where
  one := mo1_Field_put
  no := fun c cd f e => (cls_all (p := fun cd => ∀ f ∈ cd.flds, nmL.getD f "" ≠ ("put" : Str)) (by decide +kernel) c cd e f ·)
  cls := t.cls 52
  at_ := t.meth 63
theorem mo1_Field_leave : ∀ (c : Nat) (cd : Cls) (g : Nat), prog.cls[c]? = some cd → cd.meths.lookup 31 = some g → c = 3 ∧ g = 28
  | 0, _, _, h, hg => by cases h; cases hg
  | 1, _, _, h, hg => by cases h; cases hg
  | 2, _, _, h, hg => by cases h; cases hg
  | 3, _, _, h, hg => by cases h; cases hg; exact ⟨rfl, rfl⟩
  | _n + 4, _, _, h, _ => by cases h
theorem mo_Field_leave {K : Fr} {mg : Str → Option Value} (t : Tp theLaw K mg) {w : World} : MethOk (theLaw.Z w K) K 31 "leave" 3 28 (a_Field_leave K) where
  one := mo1_Field_leave
  no := fun c cd f e => (cls_all (p := fun cd => ∀ f ∈ cd.flds, nmL.getD f "" ≠ ("leave" : Str)) (by decide +kernel) c cd e f ·)
  cls := t.cls 52
  at_ := t.meth 64
theorem mo1_Field_set_need : ∀ (c : Nat) (cd : Cls) (g : Nat), prog.cls[c]? = some cd → cd.meths.lookup 32 = some g → c = 3 ∧ g = 29
  | 0, _, _, h, hg => by cases h; cases hg
  | 1, _, _, h, hg => by cases h; cases hg
  | 2, _, _, h, hg => by cases h; cases hg
  | 3, _, _, h, hg => by cases h; cases hg; exact ⟨rfl, rfl⟩
  | _n + 4, _, _, h, _ => by cases h
theorem mo_Field_set_need {K : Fr} {mg : Str → Option Value} (t : Tp theLaw K mg) {w : World} : MethOk (theLaw.Z w K) K 32 "set_need" 3 29 (a_Field_set_need K) where
  one := mo1_Field_set_need
  no := fun c cd f e => (cls_all (p := fun cd => ∀ f ∈ cd.flds, nmL.getD f "" ≠ ("set_need" : Str)) (by decide +kernel) c cd e f ·)
  cls := t.cls 52
  at_ := t.meth 65
theorem mo1_Field_undo : ∀ (c : Nat) (cd : Cls) (g : Nat), prog.cls[c]? = some cd → cd.meths.lookup 35 = some g → c = 3 ∧ g = 30
  | 0, _, _, h, hg => by cases h; cases hg
  | 1, _, _, h, hg => by cases h; cases hg
  | 2, _, _, h, hg => by cases h; cases hg
  | 3, _, _, h, hg => by cases h; cases hg; exact ⟨rfl, rfl⟩
  | _n + 4, _, _, h, _ => by cases h
theorem mo_Field_undo {K : Fr} {mg : Str → Option Value} (t : Tp theLaw K mg) {w : World} : MethOk (theLaw.Z w K) K 35 "undo" 3 30 (a_Field_undo K) where
  one := mo1_Field_undo
  no := fun c cd f e => (cls_all (p := fun cd => ∀ f ∈ cd.flds, nmL.getD f "" ≠ ("undo" : Str)) (by decide +kernel) c cd e f ·)
  cls := t.cls 52
  at_ := t.meth 66
theorem mo1_Field_fork : ∀ (c : Nat) (cd : Cls) (g : Nat), prog.cls[c]? = some cd → cd.meths.lookup 27 = some g → c = 3 ∧ g = 31
  | 0, _, _, h, hg => by cases h; cases hg
  | 1, _, _, h, hg => by cases h; cases hg
  | 2, _, _, h, hg => by cases h; cases hg
  | 3, _, _, h, hg => by cases h; cases hg; exact ⟨rfl, rfl⟩
  | _n + 4, _, _, h, _ => by cases h
theorem mo_Field_fork {K : Fr} {mg : Str → Option Value} (t : Tp theLaw K mg) {w : World} : MethOk (theLaw.Z w K) K 27 "fork" 3 31 (a_Field_fork K) where
  one := mo1_Field_fork
  no := fun c cd f e => (cls_all (p := fun cd => ∀ f ∈ cd.flds, nmL.getD f "" ≠ ("fork" : Str)) (by decide +kernel) c cd e f ·)
  cls := t.cls 52
  at_ := t.meth 67
theorem mo1_Field_outcome : ∀ (c : Nat) (cd : Cls) (g : Nat), prog.cls[c]? = some cd → cd.meths.lookup 28 = some g → c = 3 ∧ g = 32
  | 0, _, _, h, hg => by cases h; cases hg
  | 1, _, _, h, hg => by cases h; cases hg
  | 2, _, _, h, hg => by cases h; cases hg
  | 3, _, _, h, hg => by cases h; cases hg; exact ⟨rfl, rfl⟩
  | _n + 4, _, _, h, _ => by cases h
theorem mo_Field_outcome {K : Fr} {mg : Str → Option Value} (t : Tp theLaw K mg) {w : World} : MethOk (theLaw.Z w K) K 28 "outcome" 3 32 (a_Field_outcome K) where
  one := mo1_Field_outcome
  no := fun c cd f e => (cls_all (p := fun cd => ∀ f ∈ cd.flds, nmL.getD f "" ≠ ("outcome" : Str)) (by decide +kernel) c cd e f ·)
  cls := t.cls 52
  at_ := t.meth 68
theorem mo1_Field_never : ∀ (c : Nat) (cd : Cls) (g : Nat), prog.cls[c]? = some cd → cd.meths.lookup 36 = some g → c = 3 ∧ g = 33
  | 0, _, _, h, hg => by cases h; cases hg
  | 1, _, _, h, hg => by cases h; cases hg
  | 2, _, _, h, hg => by cases h; cases hg
  | 3, _, _, h, hg => by cases h; cases hg; exact ⟨rfl, rfl⟩
  | _n + 4, _, _, h, _ => by cases h
theorem mo_Field_never {K : Fr} {mg : Str → Option Value} (t : Tp theLaw K mg) {w : World} : MethOk (theLaw.Z w K) K 36 "never" 3 33 (a_Field_never K) where
  one := mo1_Field_never
  no := fun c cd f e => (cls_all (p := fun cd => ∀ f ∈ cd.flds, nmL.getD f "" ≠ ("never" : Str)) (by decide +kernel) c cd e f ·)
  cls := t.cls 52
  at_ := t.meth 69
theorem po1_Stretch_columns : ∀ (c : Nat) (cd : Cls), prog.cls[c]? = some cd → (∃ g, cd.props.lookup 13 = some g ∧ c = 1 ∧ g = 10) ∨ (cd.props.lookup 13 = none ∧ cd.flds.idxOf? 13 = none)
  | 0, _, h => by cases h; exact .inr ⟨by decide +kernel, by decide +kernel⟩
  | 1, _, h => by cases h; exact .inl ⟨_, rfl, rfl, rfl⟩
  | 2, _, h => by cases h; exact .inr ⟨by decide +kernel, by decide +kernel⟩
  | 3, _, h => by cases h; exact .inr ⟨by decide +kernel, by decide +kernel⟩
  | _n + 4, _, h => by cases h
theorem po_Stretch_columns {K : Fr} {mg : Str → Option Value} (t : Tp theLaw K mg) {w : World} : PropOk (theLaw.Z w K) K 13 "columns" 1 10 (prA "Stretch" "columns" K) (a_Stretch_columns K) := ⟨po1_Stretch_columns, t.cls 37, t.prop 2⟩
theorem po1_Field_web : ∀ (c : Nat) (cd : Cls), prog.cls[c]? = some cd → (∃ g, cd.props.lookup 34 = some g ∧ c = 3 ∧ g = 20) ∨ (cd.props.lookup 34 = none ∧ cd.flds.idxOf? 34 = none)
  | 0, _, h => by cases h; exact .inr ⟨by decide +kernel, by decide +kernel⟩
  | 1, _, h => by cases h; exact .inr ⟨by decide +kernel, by decide +kernel⟩
  | 2, _, h => by cases h; exact .inr ⟨by decide +kernel, by decide +kernel⟩
  | 3, _, h => by cases h; exact .inl ⟨_, rfl, rfl, rfl⟩
  | _n + 4, _, h => by cases h
theorem po_Field_web {K : Fr} {mg : Str → Option Value} (t : Tp theLaw K mg) {w : World} : PropOk (theLaw.Z w K) K 34 "web" 3 20 (prA "Field" "web" K) (a_Field_web K) := ⟨po1_Field_web, t.cls 52, t.prop 3⟩
theorem po1_Field_inside : ∀ (c : Nat) (cd : Cls), prog.cls[c]? = some cd → (∃ g, cd.props.lookup 25 = some g ∧ c = 3 ∧ g = 21) ∨ (cd.props.lookup 25 = none ∧ cd.flds.idxOf? 25 = none)
  | 0, _, h => by cases h; exact .inr ⟨by decide +kernel, by decide +kernel⟩
  | 1, _, h => by cases h; exact .inr ⟨by decide +kernel, by decide +kernel⟩
  | 2, _, h => by cases h; exact .inr ⟨by decide +kernel, by decide +kernel⟩
  | 3, _, h => by cases h; exact .inl ⟨_, rfl, rfl, rfl⟩
  | _n + 4, _, h => by cases h
theorem po_Field_inside {K : Fr} {mg : Str → Option Value} (t : Tp theLaw K mg) {w : World} : PropOk (theLaw.Z w K) K 25 "inside" 3 21 (prA "Field" "inside" K) (a_Field_inside K) := ⟨po1_Field_inside, t.cls 52, t.prop 4⟩
theorem po1_Field_history : ∀ (c : Nat) (cd : Cls), prog.cls[c]? = some cd → (∃ g, cd.props.lookup 33 = some g ∧ c = 3 ∧ g = 22) ∨ (cd.props.lookup 33 = none ∧ cd.flds.idxOf? 33 = none)
  | 0, _, h => by cases h; exact .inr ⟨by decide +kernel, by decide +kernel⟩
  | 1, _, h => by cases h; exact .inr ⟨by decide +kernel, by decide +kernel⟩
  | 2, _, h => by cases h; exact .inr ⟨by decide +kernel, by decide +kernel⟩
  | 3, _, h => by cases h; exact .inl ⟨_, rfl, rfl, rfl⟩
  | _n + 4, _, h => by cases h
theorem po_Field_history {K : Fr} {mg : Str → Option Value} (t : Tp theLaw K mg) {w : World} : PropOk (theLaw.Z w K) K 33 "history" 3 22 (prA "Field" "history" K) (a_Field_history K) := ⟨po1_Field_history, t.cls 52, t.prop 5⟩
theorem pd_Frame___init__ {K : Fr} {mg : Str → Option Value} (t : Tp theLaw K mg) {w : World} : ParOk (theLaw.Z w K) [.a 0, .d (.tup []), .d (.tup [])] 1 3 ((d_Frame___init__.kws K).map (·.2)) := fun R args vs r h => by
  obtain ⟨r1, h1⟩ := parId (Z := theLaw.Z w K) 1 R args vs r h
  match args, h, r, r1 with
  | [_], _, r, r1 => exact ⟨by rw [List.append_nil] at r1; exact Rps.append r1 (Rps.cons (t.nilT 6) (Rps.cons (t.nilT 7) (Rps.nil))), rfl⟩
theorem pd_Web___init__ {K : Fr} {mg : Str → Option Value} (t : Tp theLaw K mg) {w : World} : ParOk (theLaw.Z w K) [.a 0, .d (.bl false)] 1 2 ((d_Web___init__.kws K).map (·.2)) := fun R args vs r h => by
  obtain ⟨r1, h1⟩ := parId (Z := theLaw.Z w K) 1 R args vs r h
  match args, h, r, r1 with
  | [_], _, r, r1 => exact ⟨by rw [List.append_nil] at r1; exact Rps.append r1 (Rps.cons rp_bl (Rps.nil)), rfl⟩
theorem b_Web___init___closed {K : Fr} {mg : Str → Option Value} (t : Tp theLaw K mg) : ∃ mv : List Value, KBn K (fdAt K (a_Web___init__ K)) ["self", "stretch", "closed"] 2 ["closed"] (fun us ws => us ++ ((ws.drop 0).take 1)) (fun us ws => (fun (mv : List V) => us ++ ((ws.drop 0).take 1)) (([] : List (Str × V)).map (·.2))) := (fd_Web___init__ t).kbinds0 2 ["closed"] [] (fun us mv ws => us ++ ((ws.drop 0).take 1)) (by simp [He.DefD.kws, d_Web___init__]) (by simp [He.DefD.kws, d_Web___init__]) (fun a b c => a.append ((c.drop 0).take 1)) fun _ _ _ _ _ _ us mv ws h1 h2 h3 => match us, h1, mv, h2, ws, h3 with | [_, _], _, [], _, [_], _ => rfl
theorem pk_Web___init___closed {K : Fr} {mg : Str → Option Value} (t : Tp theLaw K mg) {w : World} (R : Rn) (args kargs : List MV) (vs zs : List V) (r1 : Rps (theLaw.Z w K) R args vs) (r2 : Rps (theLaw.Z w K) R kargs zs) (h1 : args.length = 1) (h2 : kargs.length = 1) : ∃ ws, Rps (theLaw.Z w K) R (params [.a 0, .a 1] (args ++ kargs)) ws ∧ (∀ x, (fun us ws => (fun (mv : List V) => us ++ ((ws.drop 0).take 1)) (([] : List (Str × V)).map (·.2))) (x :: vs) zs = x :: ws) ∧ (params [.a 0, .a 1] (args ++ kargs)).length = 2 := by
  match args, h1, kargs, h2, r1, r2 with
  | [_], _, [_], _, r1, r2 =>
    simp only [Rps] at r1 r2
    obtain ⟨v0, _, rfl, p0, rfl⟩ := r1
    obtain ⟨z0, _, rfl, o0, rfl⟩ := r2
    exact ⟨[v0, z0], Rps.cons p0 (Rps.cons o0 (Rps.nil)), fun _ => rfl, rfl⟩
theorem b_Frame___init___outer {K : Fr} {mg : Str → Option Value} (t : Tp theLaw K mg) : ∃ mv : List Value, KBn K (fdAt K (a_Frame___init__ K)) ["self", "width", "inner", "outer"] 2 ["outer"] (fun us ws => us ++ ((mv.drop 0).take 1 ++ (ws.drop 0).take 1)) (fun us ws => (fun (mv : List V) => us ++ ((mv.drop 0).take 1 ++ (ws.drop 0).take 1)) (([("inner", (He.Dv.adr (kwA ("Frame", some "__init__") "inner") : He.Dv).v K)] : List (Str × V)).map (·.2))) := (fd_Frame___init__ t).kbinds0 2 ["outer"] [("inner", (He.Dv.adr (kwA ("Frame", some "__init__") "inner") : He.Dv).v K)] (fun us mv ws => us ++ ((mv.drop 0).take 1 ++ (ws.drop 0).take 1)) (by simp [He.DefD.kws, d_Frame___init__]) (by simp [He.DefD.kws, d_Frame___init__]) (fun a b c => a.append (((b.drop 0).take 1).append ((c.drop 0).take 1))) fun _ _ _ _ _ _ us mv ws h1 h2 h3 => match us, h1, mv, h2, ws, h3 with | [_, _], _, [_], _, [_], _ => ⟨_, _, _, _, _, _, rfl, rfl, rfl⟩
theorem pk_Frame___init___outer {K : Fr} {mg : Str → Option Value} (t : Tp theLaw K mg) {w : World} (R : Rn) (args kargs : List MV) (vs zs : List V) (r1 : Rps (theLaw.Z w K) R args vs) (r2 : Rps (theLaw.Z w K) R kargs zs) (h1 : args.length = 1) (h2 : kargs.length = 1) : ∃ ws, Rps (theLaw.Z w K) R (params [.a 0, .d (.tup []), .a 1] (args ++ kargs)) ws ∧ (∀ x, (fun us ws => (fun (mv : List V) => us ++ ((mv.drop 0).take 1 ++ (ws.drop 0).take 1)) (([("inner", (He.Dv.adr (kwA ("Frame", some "__init__") "inner") : He.Dv).v K)] : List (Str × V)).map (·.2))) (x :: vs) zs = x :: ws) ∧ (params [.a 0, .d (.tup []), .a 1] (args ++ kargs)).length = 3 := by
  match args, h1, kargs, h2, r1, r2 with
  | [_], _, [_], _, r1, r2 =>
    simp only [Rps] at r1 r2
    obtain ⟨v0, _, rfl, p0, rfl⟩ := r1
    obtain ⟨z0, _, rfl, o0, rfl⟩ := r2
    exact ⟨[v0, (He.Dv.adr (kwA ("Frame", some "__init__") "inner") : He.Dv).v K, z0], Rps.cons p0 (Rps.cons (t.nilT 6) (Rps.cons o0 (Rps.nil))), fun _ => rfl, rfl⟩
theorem sc_is_whole : FnScope ["value", "low", "high"] ["value", "low", "high"] (defScope s_is_whole) := ⟨rfl, rfl, rfl, by decide +kernel, rfl, by decide +kernel, by decide +kernel⟩
theorem ok_is_whole {K : Fr} {mg : Str → Option Value} (t : Tp theLaw K mg) {base : Heap} {w : World} : ∀ d, (∀ d', d = d' + 1 → theLaw.All K mg base w d') → FnOk theLaw.pw w K mg base CX0 (2 * d + 1) (a_is_whole K) (fdAt K (a_is_whole K)) ["value", "low", "high"] (spD (theLaw.Z w K) WW d 0 3) :=
  def_ok (mfd := f_is_whole) (fd_is_whole t) sc_is_whole rfl rfl (by decide) fun d _ _ _ _ _ _ _ ih hr hx =>
    ss_cons (st_ret (s_and hx (s_is1 (q := (.inl .int)) hx (iso t) rfl (by intro c e; cases e <;> exact ⟨_, rfl⟩) (by rfl) (t.free 27) (s_var (pv 0)) (pe_bltn (by rfl) (t.free 19) (by decide +kernel) rfl)) (s_and hx (s_not hx (s_is1 (q := (.inl .bool)) hx (iso t) rfl (by intro c e; cases e <;> exact ⟨_, rfl⟩) (by rfl) (t.free 27) (s_var (pv 0)) (pe_bltn (by rfl) (t.free 28) (by decide +kernel) rfl))) (s_one (s_chain oc_le oc_le (s_var (pv 1)) (s_var (pv 0)) (s_var (pv 2)))))))
    ss_nil
theorem sc_is_pair : FnScope ["value", "width", "is_inner"] ["value", "width", "is_inner"] (defScope s_is_pair) := ⟨rfl, rfl, rfl, by decide +kernel, rfl, by decide +kernel, by decide +kernel⟩
theorem ok_is_pair {K : Fr} {mg : Str → Option Value} (t : Tp theLaw K mg) {base : Heap} {w : World} : ∀ d, (∀ d', d = d' + 1 → theLaw.All K mg base w d') → FnOk theLaw.pw w K mg base CX0 (2 * d + 1) (a_is_pair K) (fdAt K (a_is_pair K)) ["value", "width", "is_inner"] (spD (theLaw.Z w K) WW d 1 3) :=
  def_ok (mfd := f_is_pair) (fd_is_pair t) sc_is_pair rfl rfl (by decide) fun d _ _ _ _ _ _ _ ih hr hx =>
    ss_cons (st_ite (PW.pt (t_or (t_not (t_val hx (s_is1 (q := (.inl .tuple)) hx (iso t) rfl (by intro c e; cases e <;> exact ⟨_, rfl⟩) (by rfl) (t.free 27) (s_var (pv 0)) (pe_bltn (by rfl) (t.free 20) (by decide +kernel) rfl)))) (t_or1 (t_cmp (oc_ne hx) (b_len hx (by rfl) (t.free 18) (s_var (pv 0))) k_int))))
    (ss_cons (st_ret k_bl)
    ss_nil)
    ss_nil)
    (ss_cons (st_ite (PW.pt (t_or (t_not (t_val hx (s_call noAX rfl rfl rfl (parId 3) (ih _ rfl 0 _ rfl) (hr.mono (by omega)) (by rfl) (t.glo 0) (fd_is_whole t).kp (b_is_whole t) .nil (es_cons (s_idx hx (s_var (pv 0)) k_int) (es_cons k_int (es_cons (s_sub (s_var (pv 1)) k_int) es_nil)))))) (t_or1 (t_not (t_val hx (s_call noAX rfl rfl rfl (parId 3) (ih _ rfl 0 _ rfl) (hr.mono (by omega)) (by rfl) (t.glo 0) (fd_is_whole t).kp (b_is_whole t) .nil (es_cons (s_idx hx (s_var (pv 0)) k_int) (es_cons k_int (es_cons (s_sub (s_var (pv 1)) k_int) es_nil)))))))))
    (ss_cons (st_ret k_bl)
    ss_nil)
    ss_nil)
    (ss_cons (st_ret (s_or hx (s_not hx (s_var (pv 2))) (s_one (s_cmp oc_lt (s_idx hx (s_var (pv 0)) k_int) (s_idx hx (s_var (pv 0)) k_int)))))
    ss_nil))
theorem sc_are_pairs : FnScope ["value", "width", "is_inner", "seen", "pair"] ["value", "width", "is_inner"] (defScope s_are_pairs) := ⟨rfl, rfl, rfl, by decide +kernel, rfl, by decide +kernel, by decide +kernel⟩
theorem ok_are_pairs {K : Fr} {mg : Str → Option Value} (t : Tp theLaw K mg) {base : Heap} {w : World} : ∀ d, (∀ d', d = d' + 1 → theLaw.All K mg base w d') → FnOk theLaw.pw w K mg base CX0 (2 * d + 1) (a_are_pairs K) (fdAt K (a_are_pairs K)) ["value", "width", "is_inner"] (spD (theLaw.Z w K) WW d 2 3) :=
  def_ok (mfd := f_are_pairs) (fd_are_pairs t) sc_are_pairs rfl rfl (by decide) fun d _ _ _ _ _ _ _ ih hr hx =>
    ss_cons (st_ite (t_not (t_val hx (s_isT (q1 := (.inl .list)) (q2 := (.inl .tuple)) hx (iso t) rfl (by intro c e; simp at e <;> (subst e; exact ⟨_, rfl⟩)) (by rfl) (t.free 27) (s_var (pv 0)) (pe_bltn (by rfl) (t.free 21) (by decide +kernel) rfl) (pe_bltn (by rfl) (t.free 20) (by decide +kernel) rfl))))
    (ss_cons (st_ret k_bl)
    ss_nil)
    ss_nil)
    (ss_cons (st_set (i := 3) hx rfl (by first | exact Or.inl rfl | exact Or.inr rfl) (s_cell (l_disp es_nil)) (by first | exact .inl rfl | exact .inr rfl))
    (ss_cons (s_for hx PassesOwn.never (i_seq hx (s_var (pv 0))) (g_name (pg_name (i := 4) hx.nd rfl (by first | exact Or.inl rfl | exact Or.inr rfl)))
    (ss_cons (st_ite (PW.pt (t_or (t_not (t_val hx (s_call noAX rfl rfl rfl (parId 3) (ih _ rfl 1 _ rfl) (hr.mono (by omega)) (by rfl) (t.glo 1) (fd_is_pair t).kp (b_is_pair t) .nil (es_cons (s_var (pv 4)) (es_cons (s_var (pv 1)) (es_cons (s_var (pv 2)) es_nil)))))) (t_or1 (t_cmp (oc_in hx) (s_var (pv 4)) (s_var (pv 3))))))
    (ss_cons (st_ret k_bl)
    ss_nil)
    ss_nil)
    (ss_cons (st_expr (m_append hx (s_var (pv 3)) (s_var (pv 4))))
    ss_nil)))
    (ss_cons (st_ret k_bl)
    ss_nil)))
theorem sc_Frame___init__ : FnScope ["self", "width", "inner", "outer"] ["self", "width", "inner", "outer"] (defScope s_Frame___init__) := ⟨rfl, rfl, rfl, by decide +kernel, rfl, by decide +kernel, by decide +kernel⟩
theorem ok_Frame___init__ {K : Fr} {mg : Str → Option Value} (t : Tp theLaw K mg) {base : Heap} {w : World} : ∀ d, (∀ d', d = d' + 1 → theLaw.All K mg base w d') → FnOk theLaw.pw w K mg base CX0 (2 * d + 1) (a_Frame___init__ K) (fdAt K (a_Frame___init__ K)) ["self", "width", "inner", "outer"] (spD (theLaw.Z w K) WW d 3 4) :=
  def_ok (mfd := f_Frame___init__) (fd_Frame___init__ t) sc_Frame___init__ rfl rfl (by decide) fun d _ _ _ _ _ _ _ ih hr hx =>
    ss_cons (st_ite (t_not (t_val hx (s_call noAX rfl rfl rfl (parId 3) (ih _ rfl 0 _ rfl) (hr.mono (by omega)) (by rfl) (t.glo 0) (fd_is_whole t).kp (b_is_whole t) .nil (es_cons (s_var (pv 1)) (es_cons k_int (es_cons ((t.int 16).elim fun _ h => k_gint (by rfl) h) es_nil))))))
    (ss_cons st_never
    ss_nil)
    ss_nil)
    (ss_cons (st_ite (t_not (t_val hx (s_call noAX rfl rfl rfl (parId 3) (ih _ rfl 2 _ rfl) (hr.mono (by omega)) (by rfl) (t.glo 2) (fd_are_pairs t).kp (b_are_pairs t) .nil (es_cons (s_var (pv 2)) (es_cons (s_var (pv 1)) (es_cons k_bl es_nil))))))
    (ss_cons st_never
    ss_nil)
    ss_nil)
    (ss_cons (st_ite (t_not (t_val hx (s_call noAX rfl rfl rfl (parId 3) (ih _ rfl 2 _ rfl) (hr.mono (by omega)) (by rfl) (t.glo 2) (fd_are_pairs t).kp (b_are_pairs t) .nil (es_cons (s_var (pv 3)) (es_cons (s_var (pv 1)) (es_cons k_bl es_nil))))))
    (ss_cons st_never
    ss_nil)
    ss_nil)
    (ss_cons (st_asg (s_var (pv 1)) (g_fld (f := 2) hx (zok t) rfl (s_var (pv 0))))
    (ss_cons (st_asg (b_tuple hx (by rfl) (t.free 20) (s_fz (l_sorted hx (by rfl) (t.free 22) (s_var (pv 2))))) (g_fld (f := 1) hx (zok t) rfl (s_var (pv 0))))
    (ss_cons (st_asg (b_tuple hx (by rfl) (t.free 20) (s_fz (l_sorted hx (by rfl) (t.free 22) (s_var (pv 3))))) (g_fld (f := 0) hx (zok t) rfl (s_var (pv 0))))
    ss_nil)))))
theorem sc_Frame_beside : FnScope ["self", "row", "a", "b"] ["self", "row"] (defScope s_Frame_beside) := ⟨rfl, rfl, rfl, by decide +kernel, rfl, by decide +kernel, by decide +kernel⟩
theorem ok_Frame_beside {K : Fr} {mg : Str → Option Value} (t : Tp theLaw K mg) {base : Heap} {w : World} : ∀ d, (∀ d', d = d' + 1 → theLaw.All K mg base w d') → FnOk theLaw.pw w K mg base CX0 (2 * d + 1) (a_Frame_beside K) (fdAt K (a_Frame_beside K)) ["self", "row"] (spD (theLaw.Z w K) WW d 4 2) :=
  def_ok (mfd := f_Frame_beside) (fd_Frame_beside t) sc_Frame_beside rfl rfl (by decide) fun d _ _ _ _ _ _ _ ih hr hx =>
    ss_cons (st_ret (b_tuple hx (by rfl) (t.free 20) (s_fz (l_sorted hx (by rfl) (t.free 22) (s_fz (l_cat (s_fz (l_comp hx (i_seq hx (s_fld (f := 1) hx (zok t) rfl (by rfl) (s_var (pv 0)))) (own := [("a", 2), ("b", 3)]) (blk_ok (by kernel_rfl)) (by decide) (fun _ _ _ _ _ => g_nA (g_tup hx.blk (gs_cons (g_name (pg_name (i := 2) hx.blk.nd rfl (by first | exact Or.inl rfl | exact Or.inr rfl))) (gs_cons (g_name (pg_name (i := 3) hx.blk.nd rfl (by first | exact Or.inl rfl | exact Or.inr rfl))) gs_nil)))) (fun _ _ _ _ _ => q_one (t_cmp (oc_eq hx.blk) (s_var (pv 2)) (s_var (pv 1)))) (fun _ _ _ _ _ => s_var (pv 3)))) (s_fz (l_comp hx (i_seq hx (s_fld (f := 1) hx (zok t) rfl (by rfl) (s_var (pv 0)))) (own := [("a", 2), ("b", 3)]) (blk_ok (by kernel_rfl)) (by decide) (fun _ _ _ _ _ => g_nA (g_tup hx.blk (gs_cons (g_name (pg_name (i := 2) hx.blk.nd rfl (by first | exact Or.inl rfl | exact Or.inr rfl))) (gs_cons (g_name (pg_name (i := 3) hx.blk.nd rfl (by first | exact Or.inl rfl | exact Or.inr rfl))) gs_nil)))) (fun _ _ _ _ _ => q_one (t_cmp (oc_eq hx.blk) (s_var (pv 3)) (s_var (pv 1)))) (fun _ _ _ _ _ => s_var (pv 2))))))))))
    ss_nil
theorem sc_Frame_onward : FnScope ["self", "row", "a", "b"] ["self", "row"] (defScope s_Frame_onward) := ⟨rfl, rfl, rfl, by decide +kernel, rfl, by decide +kernel, by decide +kernel⟩
theorem ok_Frame_onward {K : Fr} {mg : Str → Option Value} (t : Tp theLaw K mg) {base : Heap} {w : World} : ∀ d, (∀ d', d = d' + 1 → theLaw.All K mg base w d') → FnOk theLaw.pw w K mg base CX0 (2 * d + 1) (a_Frame_onward K) (fdAt K (a_Frame_onward K)) ["self", "row"] (spD (theLaw.Z w K) WW d 5 2) :=
  def_ok (mfd := f_Frame_onward) (fd_Frame_onward t) sc_Frame_onward rfl rfl (by decide) fun d _ _ _ _ _ _ _ ih hr hx =>
    ss_cons (st_ret (b_tuple hx (by rfl) (t.free 20) (s_fz (l_comp hx (i_seq hx (s_fld (f := 0) hx (zok t) rfl (by rfl) (s_var (pv 0)))) (own := [("a", 2), ("b", 3)]) (blk_ok (by kernel_rfl)) (by decide) (fun _ _ _ _ _ => g_nA (g_tup hx.blk (gs_cons (g_name (pg_name (i := 2) hx.blk.nd rfl (by first | exact Or.inl rfl | exact Or.inr rfl))) (gs_cons (g_name (pg_name (i := 3) hx.blk.nd rfl (by first | exact Or.inl rfl | exact Or.inr rfl))) gs_nil)))) (fun _ _ _ _ _ => q_one (t_cmp (oc_eq hx.blk) (s_var (pv 2)) (s_var (pv 1)))) (fun _ _ _ _ _ => s_var (pv 3))))))
    ss_nil
theorem sc_Frame_back : FnScope ["self", "row", "a", "b"] ["self", "row"] (defScope s_Frame_back) := ⟨rfl, rfl, rfl, by decide +kernel, rfl, by decide +kernel, by decide +kernel⟩
theorem ok_Frame_back {K : Fr} {mg : Str → Option Value} (t : Tp theLaw K mg) {base : Heap} {w : World} : ∀ d, (∀ d', d = d' + 1 → theLaw.All K mg base w d') → FnOk theLaw.pw w K mg base CX0 (2 * d + 1) (a_Frame_back K) (fdAt K (a_Frame_back K)) ["self", "row"] (spD (theLaw.Z w K) WW d 6 2) :=
  def_ok (mfd := f_Frame_back) (fd_Frame_back t) sc_Frame_back rfl rfl (by decide) fun d _ _ _ _ _ _ _ ih hr hx =>
    ss_cons (st_ret (b_tuple hx (by rfl) (t.free 20) (s_fz (l_comp hx (i_seq hx (s_fld (f := 0) hx (zok t) rfl (by rfl) (s_var (pv 0)))) (own := [("a", 2), ("b", 3)]) (blk_ok (by kernel_rfl)) (by decide) (fun _ _ _ _ _ => g_nA (g_tup hx.blk (gs_cons (g_name (pg_name (i := 2) hx.blk.nd rfl (by first | exact Or.inl rfl | exact Or.inr rfl))) (gs_cons (g_name (pg_name (i := 3) hx.blk.nd rfl (by first | exact Or.inl rfl | exact Or.inr rfl))) gs_nil)))) (fun _ _ _ _ _ => q_one (t_cmp (oc_eq hx.blk) (s_var (pv 3)) (s_var (pv 1)))) (fun _ _ _ _ _ => s_var (pv 2))))))
    ss_nil
theorem sc_is_cell : FnScope ["value"] ["value"] (defScope s_is_cell) := ⟨rfl, rfl, rfl, by decide +kernel, rfl, by decide +kernel, by decide +kernel⟩
theorem ok_is_cell {K : Fr} {mg : Str → Option Value} (t : Tp theLaw K mg) {base : Heap} {w : World} : ∀ d, (∀ d', d = d' + 1 → theLaw.All K mg base w d') → FnOk theLaw.pw w K mg base CX0 (2 * d + 1) (a_is_cell K) (fdAt K (a_is_cell K)) ["value"] (spD (theLaw.Z w K) WW d 7 1) :=
  def_ok (mfd := f_is_cell) (fd_is_cell t) sc_is_cell rfl rfl (by decide) fun d _ _ _ _ _ _ _ ih hr hx =>
    ss_cons (st_ite (PW.pt (t_or (t_not (t_val hx (s_is1 (q := (.inl .tuple)) hx (iso t) rfl (by intro c e; cases e <;> exact ⟨_, rfl⟩) (by rfl) (t.free 27) (s_var (pv 0)) (pe_bltn (by rfl) (t.free 20) (by decide +kernel) rfl)))) (t_or1 (t_cmp (oc_ne hx) (b_len hx (by rfl) (t.free 18) (s_var (pv 0))) k_int))))
    (ss_cons (st_ret k_bl)
    ss_nil)
    ss_nil)
    (ss_cons (st_ret (s_and hx (s_call noAX rfl rfl rfl (parId 3) (ih _ rfl 0 _ rfl) (hr.mono (by omega)) (by rfl) (t.glo 0) (fd_is_whole t).kp (b_is_whole t) .nil (es_cons (s_idx hx (s_var (pv 0)) k_int) (es_cons k_int (es_cons ((t.int 17).elim fun _ h => k_gint (by rfl) h) es_nil)))) (s_one (s_is1 (q := (.inl .bool)) hx (iso t) rfl (by intro c e; cases e <;> exact ⟨_, rfl⟩) (by rfl) (t.free 27) (s_idx hx (s_var (pv 0)) k_int) (pe_bltn (by rfl) (t.free 28) (by decide +kernel) rfl)))))
    ss_nil)
theorem sc_is_column : FnScope ["frame", "value", "cell"] ["frame", "value"] (defScope s_is_column) := ⟨rfl, rfl, rfl, by decide +kernel, rfl, by decide +kernel, by decide +kernel⟩
theorem ok_is_column {K : Fr} {mg : Str → Option Value} (t : Tp theLaw K mg) {base : Heap} {w : World} : ∀ d, (∀ d', d = d' + 1 → theLaw.All K mg base w d') → FnOk theLaw.pw w K mg base CX0 (2 * d + 1) (a_is_column K) (fdAt K (a_is_column K)) ["frame", "value"] (spD (theLaw.Z w K) WW d 8 2) :=
  def_ok (mfd := f_is_column) (fd_is_column t) sc_is_column rfl rfl (by decide) fun d _ _ _ _ _ _ _ ih hr hx =>
    ss_cons (st_ite (PW.pt (t_or (t_not (t_val hx (s_is1 (q := (.inl .tuple)) hx (iso t) rfl (by intro c e; cases e <;> exact ⟨_, rfl⟩) (by rfl) (t.free 27) (s_var (pv 1)) (pe_bltn (by rfl) (t.free 20) (by decide +kernel) rfl)))) (t_or1 (t_cmp (oc_ne hx) (b_len hx (by rfl) (t.free 18) (s_var (pv 1))) (s_fld (f := 2) hx (zok t) rfl (by rfl) (s_var (pv 0)))))))
    (ss_cons (st_ret k_bl)
    ss_nil)
    ss_nil)
    (ss_cons (st_ret (s_cmp (oc_nin hx) k_bl (s_fz (l_comp hx (i_seq hx (s_var (pv 1))) (own := [("cell", 2)]) (blk_ok (by kernel_rfl)) (by decide) (fun _ _ _ _ _ => g_name (pg_name (i := 2) hx.blk.nd rfl (by first | exact Or.inl rfl | exact Or.inr rfl))) (fun _ _ _ _ _ => q_nil) (fun _ _ _ _ _ => s_call noX rfl rfl rfl (parId 1) (ih _ rfl 7 _ rfl) (hr.mono (by omega)) (by rfl) (t.glo 4) (fd_is_cell t).kp (b_is_cell t) .nil (es_cons (s_var (pv 2)) es_nil))))))
    ss_nil)
theorem sc_Stretch___init__ : FnScope ["self", "frame", "columns", "number", "column"] ["self", "frame", "columns"] (defScope s_Stretch___init__) := ⟨rfl, rfl, rfl, by decide +kernel, rfl, by decide +kernel, by decide +kernel⟩
theorem ok_Stretch___init__ {K : Fr} {mg : Str → Option Value} (t : Tp theLaw K mg) {base : Heap} {w : World} : ∀ d, (∀ d', d = d' + 1 → theLaw.All K mg base w d') → FnOk theLaw.pw w K mg base CX0 (2 * d + 1) (a_Stretch___init__ K) (fdAt K (a_Stretch___init__ K)) ["self", "frame", "columns"] (spD (theLaw.Z w K) WW d 9 3) :=
  def_ok (mfd := f_Stretch___init__) (fd_Stretch___init__ t) sc_Stretch___init__ rfl rfl (by decide) fun d _ _ _ _ _ _ _ ih hr hx =>
    ss_cons (st_ite (t_not (t_val hx (s_isT (q1 := (.inl .list)) (q2 := (.inl .tuple)) hx (iso t) rfl (by intro c e; simp at e <;> (subst e; exact ⟨_, rfl⟩)) (by rfl) (t.free 27) (s_var (pv 2)) (pe_bltn (by rfl) (t.free 21) (by decide +kernel) rfl) (pe_bltn (by rfl) (t.free 20) (by decide +kernel) rfl))))
    (ss_cons st_never
    ss_nil)
    ss_nil)
    (ss_cons (s_for hx PassesOwn.never (i_enum hx (by rfl) (t.free 26) (s_var (pv 2))) (g_tup hx (gs_cons (g_name (pg_name (i := 3) hx.nd rfl (by first | exact Or.inl rfl | exact Or.inr rfl))) (gs_cons (g_name (pg_name (i := 4) hx.nd rfl (by first | exact Or.inl rfl | exact Or.inr rfl))) gs_nil)))
    (ss_cons (st_ite (t_not (t_val hx (s_call noAX rfl rfl rfl (parId 2) (ih _ rfl 8 _ rfl) (hr.mono (by omega)) (by rfl) (t.glo 5) (fd_is_column t).kp (b_is_column t) .nil (es_cons (s_var (pv 1)) (es_cons (s_var (pv 4)) es_nil)))))
    (ss_cons st_never
    ss_nil)
    ss_nil)
    ss_nil))
    (ss_cons (st_asg (s_var (pv 1)) (g_fld (f := 4) hx (zok t) rfl (s_var (pv 0))))
    (ss_cons (st_asg (s_fz (l_list hx (by rfl) (t.free 21) (s_var (pv 2)))) (g_fld (f := 3) hx (zok t) rfl (s_var (pv 0))))
    ss_nil)))
theorem sc_Stretch_columns : FnScope ["self"] ["self"] (defScope s_Stretch_columns) := ⟨rfl, rfl, rfl, by decide +kernel, rfl, by decide +kernel, by decide +kernel⟩
theorem ok_Stretch_columns {K : Fr} {mg : Str → Option Value} (t : Tp theLaw K mg) {base : Heap} {w : World} : ∀ d, (∀ d', d = d' + 1 → theLaw.All K mg base w d') → FnOk theLaw.pw w K mg base CX0 (2 * d + 1) (a_Stretch_columns K) (fdAt K (a_Stretch_columns K)) ["self"] (spD (theLaw.Z w K) WW d 10 1) :=
  def_ok (mfd := f_Stretch_columns) (fd_Stretch_columns t) sc_Stretch_columns rfl rfl (by decide) fun d _ _ _ _ _ _ _ ih hr hx =>
    ss_cons (st_ret (s_cell (l_list hx (by rfl) (t.free 21) (s_fld (f := 3) hx (zok t) rfl (by rfl) (s_var (pv 0))))))
    ss_nil
theorem sc_Stretch___len__ : FnScope ["self"] ["self"] (defScope s_Stretch___len__) := ⟨rfl, rfl, rfl, by decide +kernel, rfl, by decide +kernel, by decide +kernel⟩
theorem ok_Stretch___len__ {K : Fr} {mg : Str → Option Value} (t : Tp theLaw K mg) {base : Heap} {w : World} : ∀ d, (∀ d', d = d' + 1 → theLaw.All K mg base w d') → FnOk theLaw.pw w K mg base CX0 (2 * d + 1) (a_Stretch___len__ K) (fdAt K (a_Stretch___len__ K)) ["self"] (spD (theLaw.Z w K) WW d 11 1) :=
  def_ok (mfd := f_Stretch___len__) (fd_Stretch___len__ t) sc_Stretch___len__ rfl rfl (by decide) fun d _ _ _ _ _ _ _ ih hr hx =>
    ss_cons (st_ret (b_len hx (by rfl) (t.free 18) (s_fld (f := 3) hx (zok t) rfl (by rfl) (s_var (pv 0)))))
    ss_nil
theorem sc_Web___init__ : FnScope ["self", "stretch", "closed"] ["self", "stretch", "closed"] (defScope s_Web___init__) := ⟨rfl, rfl, rfl, by decide +kernel, rfl, by decide +kernel, by decide +kernel⟩
theorem ok_Web___init__ {K : Fr} {mg : Str → Option Value} (t : Tp theLaw K mg) {base : Heap} {w : World} : ∀ d, (∀ d', d = d' + 1 → theLaw.All K mg base w d') → FnOk theLaw.pw w K mg base CX0 (2 * d + 1) (a_Web___init__ K) (fdAt K (a_Web___init__ K)) ["self", "stretch", "closed"] (spD (theLaw.Z w K) WW d 12 3) :=
  def_ok (mfd := f_Web___init__) (fd_Web___init__ t) sc_Web___init__ rfl rfl (by decide) fun d _ _ _ _ _ _ _ ih hr hx =>
    ss_cons (st_ite (t_cmp oc_lt (b_lenO hx (mo_Stretch___len__ t) noAX rfl rfl rfl (ih _ rfl 11 _ rfl) (hr.mono (by omega)) (b_Stretch___len__ t) (by rfl) (t.free 18) (s_var (pv 1))) (s_ite (t_val hx (s_var (pv 2))) k_int k_int))
    (ss_cons st_never
    ss_nil)
    ss_nil)
    (ss_cons (st_asg (s_var (pv 1)) (g_fld (f := 6) hx (zok t) rfl (s_var (pv 0))))
    (ss_cons (st_asg (s_var (pv 2)) (g_fld (f := 5) hx (zok t) rfl (s_var (pv 0))))
    ss_nil))
theorem sc_Web_seats : FnScope ["self", "column", "row"] ["self"] (defScope s_Web_seats) := ⟨rfl, rfl, rfl, by decide +kernel, rfl, by decide +kernel, by decide +kernel⟩
theorem ok_Web_seats {K : Fr} {mg : Str → Option Value} (t : Tp theLaw K mg) {base : Heap} {w : World} : ∀ d, (∀ d', d = d' + 1 → theLaw.All K mg base w d') → FnOk theLaw.pw w K mg base CX0 (2 * d + 1) (a_Web_seats K) (fdAt K (a_Web_seats K)) ["self"] (spD (theLaw.Z w K) WW d 13 1) :=
  def_ok (mfd := f_Web_seats) (fd_Web_seats t) sc_Web_seats rfl rfl (by decide) fun d _ _ _ _ _ _ _ ih hr hx =>
    ss_cons (st_ret (s_fz (l_comp2 hx (i_range1 (by rfl) (t.free 25) (b_lenO hx (mo_Stretch___len__ t) noAX rfl rfl rfl (ih _ rfl 11 _ rfl) (hr.mono (by omega)) (b_Stretch___len__ t) (by rfl) (t.free 18) (s_fld (f := 6) hx (zok t) rfl (by rfl) (s_var (pv 0))))) (own := [("column", 1), ("row", 2)]) (vs1 := [2]) (blk_ok (by kernel_rfl)) (by decide) (by decide) (by decide) (fun _ _ _ _ _ => g_name (pg_name (i := 1) hx.blk.nd rfl (by first | exact Or.inl rfl | exact Or.inr rfl))) (fun _ _ _ _ _ => q_nil) (fun _ _ _ _ _ => i_range1 (by rfl) (t.free 25) (s_fld (f := 2) hx.blk (zok t) rfl (by rfl) (s_fld (f := 4) hx.blk (zok t) rfl (by rfl) (s_fld (f := 6) hx.blk (zok t) rfl (by rfl) (s_var (pv 0)))))) (fun _ _ _ _ _ => g_name (pg_name (i := 2) hx.blk.nd rfl (by first | exact Or.inl rfl | exact Or.inr rfl))) (fun _ _ _ _ _ => q_nil) (fun _ _ _ _ _ => s_tup (es_cons (s_var (pv 1)) (es_cons (s_var (pv 2)) es_nil)) hx.blk))))
    ss_nil
theorem sc_Web_is_seat : FnScope ["self", "value", "frame"] ["self", "value"] (defScope s_Web_is_seat) := ⟨rfl, rfl, rfl, by decide +kernel, rfl, by decide +kernel, by decide +kernel⟩
theorem ok_Web_is_seat {K : Fr} {mg : Str → Option Value} (t : Tp theLaw K mg) {base : Heap} {w : World} : ∀ d, (∀ d', d = d' + 1 → theLaw.All K mg base w d') → FnOk theLaw.pw w K mg base CX0 (2 * d + 1) (a_Web_is_seat K) (fdAt K (a_Web_is_seat K)) ["self", "value"] (spD (theLaw.Z w K) WW d 14 2) :=
  def_ok (mfd := f_Web_is_seat) (fd_Web_is_seat t) sc_Web_is_seat rfl rfl (by decide) fun d _ _ _ _ _ _ _ ih hr hx =>
    ss_cons (st_ite (PW.pt (t_or (t_not (t_val hx (s_is1 (q := (.inl .tuple)) hx (iso t) rfl (by intro c e; cases e <;> exact ⟨_, rfl⟩) (by rfl) (t.free 27) (s_var (pv 1)) (pe_bltn (by rfl) (t.free 20) (by decide +kernel) rfl)))) (t_or1 (t_cmp (oc_ne hx) (b_len hx (by rfl) (t.free 18) (s_var (pv 1))) k_int))))
    (ss_cons (st_ret k_bl)
    ss_nil)
    ss_nil)
    (ss_cons (st_set (i := 2) hx rfl (by first | exact Or.inl rfl | exact Or.inr rfl) (s_fld (f := 4) hx (zok t) rfl (by rfl) (s_fld (f := 6) hx (zok t) rfl (by rfl) (s_var (pv 0)))) (by first | exact .inl rfl | exact .inr rfl))
    (ss_cons (st_ret (s_and hx (s_call noAX rfl rfl rfl (parId 3) (ih _ rfl 0 _ rfl) (hr.mono (by omega)) (by rfl) (t.glo 0) (fd_is_whole t).kp (b_is_whole t) .nil (es_cons (s_idx hx (s_var (pv 1)) k_int) (es_cons k_int (es_cons (s_sub (b_lenO hx (mo_Stretch___len__ t) noAX rfl rfl rfl (ih _ rfl 11 _ rfl) (hr.mono (by omega)) (b_Stretch___len__ t) (by rfl) (t.free 18) (s_fld (f := 6) hx (zok t) rfl (by rfl) (s_var (pv 0)))) k_int) es_nil)))) (s_one (s_call noAX rfl rfl rfl (parId 3) (ih _ rfl 0 _ rfl) (hr.mono (by omega)) (by rfl) (t.glo 0) (fd_is_whole t).kp (b_is_whole t) .nil (es_cons (s_idx hx (s_var (pv 1)) k_int) (es_cons k_int (es_cons (s_sub (s_fld (f := 2) hx (zok t) rfl (by rfl) (s_var (pv 2))) k_int) es_nil)))))))
    ss_nil))
theorem sc_Web_must_have : FnScope ["self", "value"] ["self", "value"] (defScope s_Web_must_have) := ⟨rfl, rfl, rfl, by decide +kernel, rfl, by decide +kernel, by decide +kernel⟩
theorem ok_Web_must_have {K : Fr} {mg : Str → Option Value} (t : Tp theLaw K mg) {base : Heap} {w : World} : ∀ d, (∀ d', d = d' + 1 → theLaw.All K mg base w d') → FnOk theLaw.pw w K mg base CX0 (2 * d + 1) (a_Web_must_have K) (fdAt K (a_Web_must_have K)) ["self", "value"] (spD (theLaw.Z w K) WW d 15 2) :=
  def_ok (mfd := f_Web_must_have) (fd_Web_must_have t) sc_Web_must_have rfl rfl (by decide) fun d _ _ _ _ _ _ _ ih hr hx =>
    ss_cons (st_ite (t_not (t_val hx (s_meth hx (mo_Web_is_seat t) noAX rfl rfl rfl (parId 1) (ih _ rfl 14 _ rfl) (hr.mono (by omega)) (b_Web_is_seat t) .nil (s_var (pv 0)) (es_cons (s_var (pv 1)) es_nil))))
    (ss_cons st_never
    ss_nil)
    ss_nil)
    ss_nil
theorem sc_Web_cell : FnScope ["self", "seat"] ["self", "seat"] (defScope s_Web_cell) := ⟨rfl, rfl, rfl, by decide +kernel, rfl, by decide +kernel, by decide +kernel⟩
theorem ok_Web_cell {K : Fr} {mg : Str → Option Value} (t : Tp theLaw K mg) {base : Heap} {w : World} : ∀ d, (∀ d', d = d' + 1 → theLaw.All K mg base w d') → FnOk theLaw.pw w K mg base CX0 (2 * d + 1) (a_Web_cell K) (fdAt K (a_Web_cell K)) ["self", "seat"] (spD (theLaw.Z w K) WW d 16 2) :=
  def_ok (mfd := f_Web_cell) (fd_Web_cell t) sc_Web_cell rfl rfl (by decide) fun d _ _ _ _ _ _ _ ih hr hx =>
    ss_cons (st_expr (s_meth hx (mo_Web_must_have t) noAX rfl rfl rfl (parId 1) (ih _ rfl 15 _ rfl) (hr.mono (by omega)) (b_Web_must_have t) .nil (s_var (pv 0)) (es_cons (s_var (pv 1)) es_nil)))
    (ss_cons (st_ret (s_idx hx (s_idx hx (s_fld (f := 3) hx (zok t) rfl (by rfl) (s_fld (f := 6) hx (zok t) rfl (by rfl) (s_var (pv 0)))) (s_idx hx (s_var (pv 1)) k_int)) (s_idx hx (s_var (pv 1)) k_int)))
    ss_nil)
theorem sc_Web_neighbours : FnScope ["self", "seat", "at", "row", "frame", "many", "found", "other"] ["self", "seat"] (defScope s_Web_neighbours) := ⟨rfl, rfl, rfl, by decide +kernel, rfl, by decide +kernel, by decide +kernel⟩
theorem ok_Web_neighbours {K : Fr} {mg : Str → Option Value} (t : Tp theLaw K mg) {base : Heap} {w : World} : ∀ d, (∀ d', d = d' + 1 → theLaw.All K mg base w d') → FnOk theLaw.pw w K mg base CX0 (2 * d + 1) (a_Web_neighbours K) (fdAt K (a_Web_neighbours K)) ["self", "seat"] (spD (theLaw.Z w K) WW d 17 2) :=
  def_ok (mfd := f_Web_neighbours) (fd_Web_neighbours t) sc_Web_neighbours rfl rfl (by decide) fun d _ _ _ _ _ _ _ ih hr hx =>
    ss_cons (st_expr (s_meth hx (mo_Web_must_have t) noAX rfl rfl rfl (parId 1) (ih _ rfl 15 _ rfl) (hr.mono (by omega)) (b_Web_must_have t) .nil (s_var (pv 0)) (es_cons (s_var (pv 1)) es_nil)))
    (ss_cons (st_asg (s_var (pv 1)) (g_tup hx (gs_cons (g_name (pg_name (i := 2) hx.nd rfl (by first | exact Or.inl rfl | exact Or.inr rfl))) (gs_cons (g_name (pg_name (i := 3) hx.nd rfl (by first | exact Or.inl rfl | exact Or.inr rfl))) gs_nil))))
    (ss_cons (st_asg (s_tup (es_cons (s_fld (f := 4) hx (zok t) rfl (by rfl) (s_fld (f := 6) hx (zok t) rfl (by rfl) (s_var (pv 0)))) (es_cons (b_lenO hx (mo_Stretch___len__ t) noAX rfl rfl rfl (ih _ rfl 11 _ rfl) (hr.mono (by omega)) (b_Stretch___len__ t) (by rfl) (t.free 18) (s_fld (f := 6) hx (zok t) rfl (by rfl) (s_var (pv 0)))) es_nil)) hx) (g_tup hx (gs_cons (g_name (pg_name (i := 4) hx.nd rfl (by first | exact Or.inl rfl | exact Or.inr rfl))) (gs_cons (g_name (pg_name (i := 5) hx.nd rfl (by first | exact Or.inl rfl | exact Or.inr rfl))) gs_nil))))
    (ss_cons (st_setLc (i := 6) hx rfl rfl rfl (i_seq hx (s_meth hx (mo_Frame_beside t) noAX rfl rfl rfl (parId 1) (ih _ rfl 4 _ rfl) (hr.mono (by omega)) (b_Frame_beside t) .nil (s_var (pv 4)) (es_cons (s_var (pv 3)) es_nil))) (own := [("other", 7)]) (blk_ok (by kernel_rfl)) (by decide) (fun _ _ _ _ _ => g_name (pg_name (i := 7) hx.blk.nd rfl (by first | exact Or.inl rfl | exact Or.inr rfl))) (fun _ _ _ _ _ => q_nil) (fun _ _ _ _ _ => s_tup (es_cons (s_var (pv 2)) (es_cons (s_var (pv 7)) es_nil)) hx.blk))
    (ss_cons (st_ite (PW.pt (t_or (t_val hx (s_fld (f := 5) hx (zok t) rfl (by rfl) (s_var (pv 0)))) (t_or1 (t_cmp oc_lt (s_add hx (s_var (pv 2)) k_int) (s_var (pv 5))))))
    (ss_cons (st_set (i := 6) hx rfl (by first | exact Or.inl rfl | exact Or.inr rfl) (s_fz (l_cat (s_var (pv 6)) (s_fz (l_comp hx (i_seq hx (s_meth hx (mo_Frame_onward t) noAX rfl rfl rfl (parId 1) (ih _ rfl 5 _ rfl) (hr.mono (by omega)) (b_Frame_onward t) .nil (s_var (pv 4)) (es_cons (s_var (pv 3)) es_nil))) (own := [("other", 7)]) (blk_ok (by kernel_rfl)) (by decide) (fun _ _ _ _ _ => g_name (pg_name (i := 7) hx.blk.nd rfl (by first | exact Or.inl rfl | exact Or.inr rfl))) (fun _ _ _ _ _ => q_nil) (fun _ _ _ _ _ => s_tup (es_cons (s_mod (s_add hx.blk (s_var (pv 2)) k_int) (s_var (pv 5))) (es_cons (s_var (pv 7)) es_nil)) hx.blk))))) (by first | exact .inl rfl | exact .inr rfl))
    ss_nil)
    ss_nil)
    (ss_cons (st_ite (PW.pt (t_or (t_val hx (s_fld (f := 5) hx (zok t) rfl (by rfl) (s_var (pv 0)))) (t_or1 (t_cmp oc_gt (s_var (pv 2)) k_int))))
    (ss_cons (st_set (i := 6) hx rfl (by first | exact Or.inl rfl | exact Or.inr rfl) (s_fz (l_cat (s_var (pv 6)) (s_fz (l_comp hx (i_seq hx (s_meth hx (mo_Frame_back t) noAX rfl rfl rfl (parId 1) (ih _ rfl 6 _ rfl) (hr.mono (by omega)) (b_Frame_back t) .nil (s_var (pv 4)) (es_cons (s_var (pv 3)) es_nil))) (own := [("other", 7)]) (blk_ok (by kernel_rfl)) (by decide) (fun _ _ _ _ _ => g_name (pg_name (i := 7) hx.blk.nd rfl (by first | exact Or.inl rfl | exact Or.inr rfl))) (fun _ _ _ _ _ => q_nil) (fun _ _ _ _ _ => s_tup (es_cons (s_mod (s_sub (s_var (pv 2)) k_int) (s_var (pv 5))) (es_cons (s_var (pv 7)) es_nil)) hx.blk))))) (by first | exact .inl rfl | exact .inr rfl))
    ss_nil)
    ss_nil)
    (ss_cons (st_ret (s_fz (l_sorted hx (by rfl) (t.free 22) (s_var (pv 6)))))
    ss_nil))))))
theorem sc_Web_changed : FnScope ["self", "seat", "cell", "columns", "row"] ["self", "seat", "cell"] (defScope s_Web_changed) := ⟨rfl, rfl, rfl, by decide +kernel, rfl, by decide +kernel, by decide +kernel⟩
theorem ok_Web_changed {K : Fr} {mg : Str → Option Value} (t : Tp theLaw K mg) {base : Heap} {w : World} : ∀ d, (∀ d', d = d' + 1 → theLaw.All K mg base w d') → FnOk theLaw.pw w K mg base CX0 (2 * d + 1) (a_Web_changed K) (fdAt K (a_Web_changed K)) ["self", "seat", "cell"] (spD (theLaw.Z w K) WW d 18 3) :=
  def_ok (mfd := f_Web_changed) (fd_Web_changed t) sc_Web_changed rfl rfl (by decide) fun d _ _ _ _ _ _ _ ih hr hx =>
    ss_cons (st_expr (s_meth hx (mo_Web_must_have t) noAX rfl rfl rfl (parId 1) (ih _ rfl 15 _ rfl) (hr.mono (by omega)) (b_Web_must_have t) .nil (s_var (pv 0)) (es_cons (s_var (pv 1)) es_nil)))
    (ss_cons (st_ite (t_not (t_val hx (s_call noAX rfl rfl rfl (parId 1) (ih _ rfl 7 _ rfl) (hr.mono (by omega)) (by rfl) (t.glo 4) (fd_is_cell t).kp (b_is_cell t) .nil (es_cons (s_var (pv 2)) es_nil))))
    (ss_cons st_never
    ss_nil)
    ss_nil)
    (ss_cons (st_set (i := 3) hx rfl (by first | exact Or.inl rfl | exact Or.inr rfl) (s_prop hx (po_Stretch_columns t) noAX rfl rfl rfl (ih _ rfl 10 _ rfl) (hr.mono (by omega)) (b_Stretch_columns t) (s_fld (f := 6) hx (zok t) rfl (by rfl) (s_var (pv 0)))) (by first | exact .inl rfl | exact .inr rfl))
    (ss_cons (st_set (i := 4) hx rfl (by first | exact Or.inl rfl | exact Or.inr rfl) (s_cell (l_list hx (by rfl) (t.free 21) (s_idx hx (s_var (pv 3)) (s_idx hx (s_var (pv 1)) k_int)))) (by first | exact .inl rfl | exact .inr rfl))
    (ss_cons (st_asg (s_var (pv 2)) (g_sub hx (s_var (pv 4)) (s_idx hx (s_var (pv 1)) k_int)))
    (ss_cons (st_asg (b_tuple hx (by rfl) (t.free 20) (s_var (pv 4))) (g_sub hx (s_var (pv 3)) (s_idx hx (s_var (pv 1)) k_int)))
    (ss_cons (st_ret ((b_Web___init___closed t).elim fun _ hb => s_makeN (Z := theLaw.Z w K) (c := 2) (x := "Web") noAX rfl rfl rfl rfl rfl (pk_Web___init___closed t) (t.mkr 43) (ih _ rfl 12 _ rfl) (hr.mono (by omega)) (by rfl) (t.glo 7) hb (es_cons (s_make (Z := theLaw.Z w K) (c := 1) (x := "Stretch") noAX rfl rfl rfl rfl rfl (parId 2) (t.mkr 38) (ih _ rfl 9 _ rfl) (hr.mono (by omega)) (by rfl) (t.glo 6) (b_Stretch___init__ t) .nil (es_cons (s_fld (f := 4) hx (zok t) rfl (by rfl) (s_fld (f := 6) hx (zok t) rfl (by rfl) (s_var (pv 0)))) (es_cons (s_var (pv 3)) es_nil))) es_nil) (ks_cons (s_fld (f := 5) hx (zok t) rfl (by rfl) (s_var (pv 0))) ks_nil) rfl))
    ss_nil))))))
theorem sc_Field___init__ : FnScope ["self", "web", "seat"] ["self", "web"] (defScope s_Field___init__) := ⟨rfl, rfl, rfl, by decide +kernel, rfl, by decide +kernel, by decide +kernel⟩
theorem ok_Field___init__ {K : Fr} {mg : Str → Option Value} (t : Tp theLaw K mg) {base : Heap} {w : World} : ∀ d, (∀ d', d = d' + 1 → theLaw.All K mg base w d') → FnOk theLaw.pw w K mg base CX0 (2 * d + 1) (a_Field___init__ K) (fdAt K (a_Field___init__ K)) ["self", "web"] (spD (theLaw.Z w K) WW d 19 2) :=
  def_ok (mfd := f_Field___init__) (fd_Field___init__ t) sc_Field___init__ rfl rfl (by decide) fun d _ _ _ _ _ _ _ ih hr hx =>
    ss_cons (st_asg (s_var (pv 1)) (g_fld (f := 20) hx (zok t) rfl (s_var (pv 0))))
    (ss_cons (st_asg (s_var (pv 1)) (g_fld (f := 19) hx (zok t) rfl (s_var (pv 0))))
    (ss_cons (st_asg (s_cell (l_dcomp hx (i_seq hx (s_meth0 hx (mo_Web_seats t) noAX rfl rfl rfl (parId 0) (ih _ rfl 13 _ rfl) (hr.mono (by omega)) (b_Web_seats t) .nil (s_var (pv 1)))) (own := [("seat", 2)]) (blk_ok (by kernel_rfl)) (by decide) (fun _ _ _ _ _ => g_name (pg_name (i := 2) hx.blk.nd rfl (by first | exact Or.inl rfl | exact Or.inr rfl))) (fun _ _ _ _ _ => q_one (t_val hx.blk (s_idx hx.blk (s_meth hx.blk (mo_Web_cell t) noX rfl rfl rfl (parId 1) (ih _ rfl 16 _ rfl) (hr.mono (by omega)) (b_Web_cell t) .nil (s_var (pv 1)) (es_cons (s_var (pv 2)) es_nil)) k_int))) (fun _ _ _ _ _ => s_var (pv 2)) (fun _ _ _ _ _ => k_bl))) (g_fld (f := 16) hx (zok t) rfl (s_var (pv 0))))
    (ss_cons (st_asg (s_cell (l_disp es_nil)) (g_fld (f := 15) hx (zok t) rfl (s_var (pv 0))))
    (ss_cons (st_asg (s_cell (l_disp es_nil)) (g_fld (f := 14) hx (zok t) rfl (s_var (pv 0))))
    ss_nil))))
theorem sc_Field_web : FnScope ["self"] ["self"] (defScope s_Field_web) := ⟨rfl, rfl, rfl, by decide +kernel, rfl, by decide +kernel, by decide +kernel⟩
theorem ok_Field_web {K : Fr} {mg : Str → Option Value} (t : Tp theLaw K mg) {base : Heap} {w : World} : ∀ d, (∀ d', d = d' + 1 → theLaw.All K mg base w d') → FnOk theLaw.pw w K mg base CX0 (2 * d + 1) (a_Field_web K) (fdAt K (a_Field_web K)) ["self"] (spD (theLaw.Z w K) WW d 20 1) :=
  def_ok (mfd := f_Field_web) (fd_Field_web t) sc_Field_web rfl rfl (by decide) fun d _ _ _ _ _ _ _ ih hr hx =>
    ss_cons (st_ret (s_fld (f := 19) hx (zok t) rfl (by rfl) (s_var (pv 0))))
    ss_nil
theorem sc_Field_inside : FnScope ["self"] ["self"] (defScope s_Field_inside) := ⟨rfl, rfl, rfl, by decide +kernel, rfl, by decide +kernel, by decide +kernel⟩
theorem ok_Field_inside {K : Fr} {mg : Str → Option Value} (t : Tp theLaw K mg) {base : Heap} {w : World} : ∀ d, (∀ d', d = d' + 1 → theLaw.All K mg base w d') → FnOk theLaw.pw w K mg base CX0 (2 * d + 1) (a_Field_inside K) (fdAt K (a_Field_inside K)) ["self"] (spD (theLaw.Z w K) WW d 21 1) :=
  def_ok (mfd := f_Field_inside) (fd_Field_inside t) sc_Field_inside rfl rfl (by decide) fun d _ _ _ _ _ _ _ ih hr hx =>
    ss_cons (st_ret (s_fz (l_sorted hx (by rfl) (t.free 22) (s_fz (l_list hx (by rfl) (t.free 21) (s_fld (f := 16) hx (zok t) rfl (by rfl) (s_var (pv 0))))))))
    ss_nil
theorem sc_Field_history : FnScope ["self"] ["self"] (defScope s_Field_history) := ⟨rfl, rfl, rfl, by decide +kernel, rfl, by decide +kernel, by decide +kernel⟩
theorem ok_Field_history {K : Fr} {mg : Str → Option Value} (t : Tp theLaw K mg) {base : Heap} {w : World} : ∀ d, (∀ d', d = d' + 1 → theLaw.All K mg base w d') → FnOk theLaw.pw w K mg base CX0 (2 * d + 1) (a_Field_history K) (fdAt K (a_Field_history K)) ["self"] (spD (theLaw.Z w K) WW d 22 1) :=
  def_ok (mfd := f_Field_history) (fd_Field_history t) sc_Field_history rfl rfl (by decide) fun d _ _ _ _ _ _ _ ih hr hx =>
    ss_cons (st_ret (s_fz (l_list hx (by rfl) (t.free 21) (s_fld (f := 15) hx (zok t) rfl (by rfl) (s_var (pv 0))))))
    ss_nil
theorem sc_Field_can_join : FnScope ["self", "found", "seat", "near", "other"] ["self"] (defScope s_Field_can_join) := ⟨rfl, rfl, rfl, by decide +kernel, rfl, by decide +kernel, by decide +kernel⟩
theorem ok_Field_can_join {K : Fr} {mg : Str → Option Value} (t : Tp theLaw K mg) {base : Heap} {w : World} : ∀ d, (∀ d', d = d' + 1 → theLaw.All K mg base w d') → FnOk theLaw.pw w K mg base CX0 (2 * d + 1) (a_Field_can_join K) (fdAt K (a_Field_can_join K)) ["self"] (spD (theLaw.Z w K) WW d 23 1) :=
  def_ok (mfd := f_Field_can_join) (fd_Field_can_join t) sc_Field_can_join rfl rfl (by decide) fun d _ _ _ _ _ _ _ ih hr hx =>
    ss_cons (st_set (i := 1) hx rfl (by first | exact Or.inl rfl | exact Or.inr rfl) (s_cell (l_disp es_nil)) (by first | exact .inl rfl | exact .inr rfl))
    (ss_cons (s_for hx PassesOwn.never (i_seq hx (s_meth0 hx (mo_Web_seats t) noAX rfl rfl rfl (parId 0) (ih _ rfl 13 _ rfl) (hr.mono (by omega)) (b_Web_seats t) .nil (s_fld (f := 19) hx (zok t) rfl (by rfl) (s_var (pv 0))))) (g_name (pg_name (i := 2) hx.nd rfl (by first | exact Or.inl rfl | exact Or.inr rfl)))
    (ss_cons (st_setLc (i := 3) hx rfl rfl rfl (i_seq hx (s_meth hx (mo_Web_neighbours t) noAX rfl rfl rfl (parId 1) (ih _ rfl 17 _ rfl) (hr.mono (by omega)) (b_Web_neighbours t) .nil (s_fld (f := 19) hx (zok t) rfl (by rfl) (s_var (pv 0))) (es_cons (s_var (pv 2)) es_nil))) (own := [("other", 4)]) (blk_ok (by kernel_rfl)) (by decide) (fun _ _ _ _ _ => g_name (pg_name (i := 4) hx.blk.nd rfl (by first | exact Or.inl rfl | exact Or.inr rfl))) (fun _ _ _ _ _ => q_one (t_cmp (oc_in hx.blk) (s_var (pv 4)) (s_fld (f := 16) hx.blk (zok t) rfl (by rfl) (s_var (pv 0))))) (fun _ _ _ _ _ => s_var (pv 4)))
    (ss_cons (st_ite (PW.pt (t_and (t_cmp (oc_nin hx) (s_var (pv 2)) (s_fld (f := 16) hx (zok t) rfl (by rfl) (s_var (pv 0)))) (t_and1 (t_cmp oc_ge (b_len hx (by rfl) (t.free 18) (s_var (pv 3))) (s_idx hx (s_meth hx (mo_Web_cell t) noAX rfl rfl rfl (parId 1) (ih _ rfl 16 _ rfl) (hr.mono (by omega)) (b_Web_cell t) .nil (s_fld (f := 19) hx (zok t) rfl (by rfl) (s_var (pv 0))) (es_cons (s_var (pv 2)) es_nil)) k_int)))))
    (ss_cons (st_expr (m_append hx (s_var (pv 1)) (s_var (pv 2))))
    ss_nil)
    ss_nil)
    ss_nil)))
    (ss_cons (st_ret (s_var (pv 1)))
    ss_nil))
theorem sc_Field_note : FnScope ["self", "event"] ["self", "event"] (defScope s_Field_note) := ⟨rfl, rfl, rfl, by decide +kernel, rfl, by decide +kernel, by decide +kernel⟩
theorem ok_Field_note {K : Fr} {mg : Str → Option Value} (t : Tp theLaw K mg) {base : Heap} {w : World} : ∀ d, (∀ d', d = d' + 1 → theLaw.All K mg base w d') → FnOk theLaw.pw w K mg base CX0 (2 * d + 1) (a_Field_note K) (fdAt K (a_Field_note K)) ["self", "event"] (spD (theLaw.Z w K) WW d 24 2) :=
  def_ok (mfd := f_Field_note) (fd_Field_note t) sc_Field_note rfl rfl (by decide) fun d _ _ _ _ _ _ _ ih hr hx =>
    ss_cons (st_expr (m_append hx (s_fld (f := 14) hx (zok t) rfl (by rfl) (s_var (pv 0))) (s_tup (es_cons (s_fld (f := 19) hx (zok t) rfl (by rfl) (s_var (pv 0))) (es_cons (s_fz (l_list hx (by rfl) (t.free 21) (s_fld (f := 16) hx (zok t) rfl (by rfl) (s_var (pv 0))))) es_nil)) hx)))
    (ss_cons (st_expr (m_append hx (s_fld (f := 15) hx (zok t) rfl (by rfl) (s_var (pv 0))) (s_var (pv 1))))
    ss_nil)
theorem sc_Field_enter : FnScope ["self", "seat"] ["self", "seat"] (defScope s_Field_enter) := ⟨rfl, rfl, rfl, by decide +kernel, rfl, by decide +kernel, by decide +kernel⟩
theorem ok_Field_enter {K : Fr} {mg : Str → Option Value} (t : Tp theLaw K mg) {base : Heap} {w : World} : ∀ d, (∀ d', d = d' + 1 → theLaw.All K mg base w d') → FnOk theLaw.pw w K mg base CX0 (2 * d + 1) (a_Field_enter K) (fdAt K (a_Field_enter K)) ["self", "seat"] (spD (theLaw.Z w K) WW d 25 2) :=
  def_ok (mfd := f_Field_enter) (fd_Field_enter t) sc_Field_enter rfl rfl (by decide) fun d _ _ _ _ _ _ _ ih hr hx =>
    ss_cons (st_expr (s_meth hx (mo_Web_must_have t) noAX rfl rfl rfl (parId 1) (ih _ rfl 15 _ rfl) (hr.mono (by omega)) (b_Web_must_have t) .nil (s_fld (f := 19) hx (zok t) rfl (by rfl) (s_var (pv 0))) (es_cons (s_var (pv 1)) es_nil)))
    (ss_cons (st_ite (t_cmp (oc_nin hx) (s_var (pv 1)) (s_meth0 hx (mo_Field_can_join t) noAX rfl rfl rfl (parId 0) (ih _ rfl 23 _ rfl) (hr.mono (by omega)) (b_Field_can_join t) .nil (s_var (pv 0))))
    (ss_cons st_never
    ss_nil)
    ss_nil)
    (ss_cons (st_expr (s_meth hx (mo_Field_note t) noAX rfl rfl rfl (parId 1) (ih _ rfl 24 _ rfl) (hr.mono (by omega)) (b_Field_note t) .nil (s_var (pv 0)) (es_cons (s_tup (es_cons k_str (es_cons (s_var (pv 1)) es_nil)) hx) es_nil)))
    (ss_cons (st_asg k_bl (g_sub hx (s_fld (f := 16) hx (zok t) rfl (by rfl) (s_var (pv 0))) (s_var (pv 1))))
    ss_nil)))
theorem sc_Field_step : FnScope ["self", "new", "seat"] ["self"] (defScope s_Field_step) := ⟨rfl, rfl, rfl, by decide +kernel, rfl, by decide +kernel, by decide +kernel⟩
theorem ok_Field_step {K : Fr} {mg : Str → Option Value} (t : Tp theLaw K mg) {base : Heap} {w : World} : ∀ d, (∀ d', d = d' + 1 → theLaw.All K mg base w d') → FnOk theLaw.pw w K mg base CX0 (2 * d + 1) (a_Field_step K) (fdAt K (a_Field_step K)) ["self"] (spD (theLaw.Z w K) WW d 26 1) :=
  def_ok (mfd := f_Field_step) (fd_Field_step t) sc_Field_step rfl rfl (by decide) fun d _ _ _ _ _ _ _ ih hr hx =>
    ss_cons (st_set (i := 1) hx rfl (by first | exact Or.inl rfl | exact Or.inr rfl) (s_meth0 hx (mo_Field_can_join t) noAX rfl rfl rfl (parId 0) (ih _ rfl 23 _ rfl) (hr.mono (by omega)) (b_Field_can_join t) .nil (s_var (pv 0))) (by first | exact .inl rfl | exact .inr rfl))
    (ss_cons (st_expr (s_meth hx (mo_Field_note t) noAX rfl rfl rfl (parId 1) (ih _ rfl 24 _ rfl) (hr.mono (by omega)) (b_Field_note t) .nil (s_var (pv 0)) (es_cons (s_tup (es_cons k_str es_nil) hx) es_nil)))
    (ss_cons (s_for hx PassesOwn.never (i_seq hx (s_var (pv 1))) (g_name (pg_name (i := 2) hx.nd rfl (by first | exact Or.inl rfl | exact Or.inr rfl)))
    (ss_cons (st_asg k_bl (g_sub hx (s_fld (f := 16) hx (zok t) rfl (by rfl) (s_var (pv 0))) (s_var (pv 2))))
    ss_nil))
    (ss_cons (st_ret (s_var (pv 1)))
    ss_nil)))
theorem sc_Field_put : FnScope ["self", "seat"] ["self", "seat"] (defScope s_Field_put) := ⟨rfl, rfl, rfl, by decide +kernel, rfl, by decide +kernel, by decide +kernel⟩
theorem ok_Field_put {K : Fr} {mg : Str → Option Value} (t : Tp theLaw K mg) {base : Heap} {w : World} : ∀ d, (∀ d', d = d' + 1 → theLaw.All K mg base w d') → FnOk theLaw.pw w K mg base CX0 (2 * d + 1) (a_Field_put K) (fdAt K (a_Field_put K)) ["self", "seat"] (spD (theLaw.Z w K) WW d 27 2) :=
  def_ok (mfd := f_Field_put) (fd_Field_put t) sc_Field_put rfl rfl (by decide) fun d _ _ _ _ _ _ _ ih hr hx =>
    ss_cons (st_expr (s_meth hx (mo_Web_must_have t) noAX rfl rfl rfl (parId 1) (ih _ rfl 15 _ rfl) (hr.mono (by omega)) (b_Web_must_have t) .nil (s_fld (f := 19) hx (zok t) rfl (by rfl) (s_var (pv 0))) (es_cons (s_var (pv 1)) es_nil)))
    (ss_cons (st_ite (t_cmp (oc_in hx) (s_var (pv 1)) (s_fld (f := 16) hx (zok t) rfl (by rfl) (s_var (pv 0))))
    (ss_cons st_never
    ss_nil)
    ss_nil)
    (ss_cons (st_expr (s_meth hx (mo_Field_note t) noAX rfl rfl rfl (parId 1) (ih _ rfl 24 _ rfl) (hr.mono (by omega)) (b_Field_note t) .nil (s_var (pv 0)) (es_cons (s_tup (es_cons k_str (es_cons (s_var (pv 1)) es_nil)) hx) es_nil)))
    (ss_cons (st_asg k_bl (g_sub hx (s_fld (f := 16) hx (zok t) rfl (by rfl) (s_var (pv 0))) (s_var (pv 1))))
    ss_nil)))
theorem sc_Field_leave : FnScope ["self", "seat"] ["self", "seat"] (defScope s_Field_leave) := ⟨rfl, rfl, rfl, by decide +kernel, rfl, by decide +kernel, by decide +kernel⟩
theorem ok_Field_leave {K : Fr} {mg : Str → Option Value} (t : Tp theLaw K mg) {base : Heap} {w : World} : ∀ d, (∀ d', d = d' + 1 → theLaw.All K mg base w d') → FnOk theLaw.pw w K mg base CX0 (2 * d + 1) (a_Field_leave K) (fdAt K (a_Field_leave K)) ["self", "seat"] (spD (theLaw.Z w K) WW d 28 2) :=
  def_ok (mfd := f_Field_leave) (fd_Field_leave t) sc_Field_leave rfl rfl (by decide) fun d _ _ _ _ _ _ _ ih hr hx =>
    ss_cons (st_expr (s_meth hx (mo_Web_must_have t) noAX rfl rfl rfl (parId 1) (ih _ rfl 15 _ rfl) (hr.mono (by omega)) (b_Web_must_have t) .nil (s_fld (f := 19) hx (zok t) rfl (by rfl) (s_var (pv 0))) (es_cons (s_var (pv 1)) es_nil)))
    (ss_cons (st_ite (t_cmp (oc_nin hx) (s_var (pv 1)) (s_fld (f := 16) hx (zok t) rfl (by rfl) (s_var (pv 0))))
    (ss_cons st_never
    ss_nil)
    ss_nil)
    (ss_cons (st_expr (s_meth hx (mo_Field_note t) noAX rfl rfl rfl (parId 1) (ih _ rfl 24 _ rfl) (hr.mono (by omega)) (b_Field_note t) .nil (s_var (pv 0)) (es_cons (s_tup (es_cons k_str (es_cons (s_var (pv 1)) es_nil)) hx) es_nil)))
    (ss_cons (st_del hx (s_fld (f := 16) hx (zok t) rfl (by rfl) (s_var (pv 0))) (s_var (pv 1)))
    ss_nil)))
theorem sc_Field_set_need : FnScope ["self", "seat", "need"] ["self", "seat", "need"] (defScope s_Field_set_need) := ⟨rfl, rfl, rfl, by decide +kernel, rfl, by decide +kernel, by decide +kernel⟩
theorem ok_Field_set_need {K : Fr} {mg : Str → Option Value} (t : Tp theLaw K mg) {base : Heap} {w : World} : ∀ d, (∀ d', d = d' + 1 → theLaw.All K mg base w d') → FnOk theLaw.pw w K mg base CX0 (2 * d + 1) (a_Field_set_need K) (fdAt K (a_Field_set_need K)) ["self", "seat", "need"] (spD (theLaw.Z w K) WW d 29 3) :=
  def_ok (mfd := f_Field_set_need) (fd_Field_set_need t) sc_Field_set_need rfl rfl (by decide) fun d _ _ _ _ _ _ _ ih hr hx =>
    ss_cons (st_expr (s_meth hx (mo_Web_must_have t) noAX rfl rfl rfl (parId 1) (ih _ rfl 15 _ rfl) (hr.mono (by omega)) (b_Web_must_have t) .nil (s_fld (f := 19) hx (zok t) rfl (by rfl) (s_var (pv 0))) (es_cons (s_var (pv 1)) es_nil)))
    (ss_cons (st_ite (t_not (t_val hx (s_call noAX rfl rfl rfl (parId 3) (ih _ rfl 0 _ rfl) (hr.mono (by omega)) (by rfl) (t.glo 0) (fd_is_whole t).kp (b_is_whole t) .nil (es_cons (s_var (pv 2)) (es_cons k_int (es_cons ((t.int 17).elim fun _ h => k_gint (by rfl) h) es_nil))))))
    (ss_cons st_never
    ss_nil)
    ss_nil)
    (ss_cons (st_expr (s_meth hx (mo_Field_note t) noAX rfl rfl rfl (parId 1) (ih _ rfl 24 _ rfl) (hr.mono (by omega)) (b_Field_note t) .nil (s_var (pv 0)) (es_cons (s_tup (es_cons k_str (es_cons (s_var (pv 1)) (es_cons (s_var (pv 2)) es_nil))) hx) es_nil)))
    (ss_cons (st_asg (s_meth hx (mo_Web_changed t) noAX rfl rfl rfl (parId 2) (ih _ rfl 18 _ rfl) (hr.mono (by omega)) (b_Web_changed t) .nil (s_fld (f := 19) hx (zok t) rfl (by rfl) (s_var (pv 0))) (es_cons (s_var (pv 1)) (es_cons (s_tup (es_cons (s_var (pv 2)) (es_cons (s_idx hx (s_meth hx (mo_Web_cell t) noAX rfl rfl rfl (parId 1) (ih _ rfl 16 _ rfl) (hr.mono (by omega)) (b_Web_cell t) .nil (s_fld (f := 19) hx (zok t) rfl (by rfl) (s_var (pv 0))) (es_cons (s_var (pv 1)) es_nil)) k_int) es_nil)) hx) es_nil))) (g_fld (f := 19) hx (zok t) rfl (s_var (pv 0))))
    ss_nil)))
theorem sc_Field_undo : FnScope ["self", "seats", "seat"] ["self"] (defScope s_Field_undo) := ⟨rfl, rfl, rfl, by decide +kernel, rfl, by decide +kernel, by decide +kernel⟩
theorem ok_Field_undo {K : Fr} {mg : Str → Option Value} (t : Tp theLaw K mg) {base : Heap} {w : World} : ∀ d, (∀ d', d = d' + 1 → theLaw.All K mg base w d') → FnOk theLaw.pw w K mg base CX0 (2 * d + 1) (a_Field_undo K) (fdAt K (a_Field_undo K)) ["self"] (spD (theLaw.Z w K) WW d 30 1) :=
  def_ok (mfd := f_Field_undo) (fd_Field_undo t) sc_Field_undo rfl rfl (by decide) fun d _ _ _ _ _ _ _ ih hr hx =>
    ss_cons (st_ite (t_cmp (oc_eq hx) (s_fld (f := 15) hx (zok t) rfl (by rfl) (s_var (pv 0))) (s_fz (l_disp es_nil)))
    (ss_cons st_never
    ss_nil)
    ss_nil)
    (ss_cons (st_asg (m_pop0 hx (s_fld (f := 14) hx (zok t) rfl (by rfl) (s_var (pv 0)))) (g_tup hx (gs_cons (g_fld (f := 19) hx (zok t) rfl (s_var (pv 0))) (gs_cons (g_name (pg_name (i := 1) hx.nd rfl (by first | exact Or.inl rfl | exact Or.inr rfl))) gs_nil))))
    (ss_cons (st_asg (s_cell (l_dcomp hx (i_seq hx (s_var (pv 1))) (own := [("seat", 2)]) (blk_ok (by kernel_rfl)) (by decide) (fun _ _ _ _ _ => g_name (pg_name (i := 2) hx.blk.nd rfl (by first | exact Or.inl rfl | exact Or.inr rfl))) (fun _ _ _ _ _ => q_nil) (fun _ _ _ _ _ => s_var (pv 2)) (fun _ _ _ _ _ => k_bl))) (g_fld (f := 16) hx (zok t) rfl (s_var (pv 0))))
    (ss_cons (st_ret (m_pop0 hx (s_fld (f := 15) hx (zok t) rfl (by rfl) (s_var (pv 0)))))
    ss_nil)))
theorem sc_Field_fork : FnScope ["self", "found", "seat"] ["self"] (defScope s_Field_fork) := ⟨rfl, rfl, rfl, by decide +kernel, rfl, by decide +kernel, by decide +kernel⟩
theorem ok_Field_fork {K : Fr} {mg : Str → Option Value} (t : Tp theLaw K mg) {base : Heap} {w : World} : ∀ d, (∀ d', d = d' + 1 → theLaw.All K mg base w d') → FnOk theLaw.pw w K mg base CX0 (2 * d + 1) (a_Field_fork K) (fdAt K (a_Field_fork K)) ["self"] (spD (theLaw.Z w K) WW d 31 1) :=
  def_ok (mfd := f_Field_fork) (fd_Field_fork t) sc_Field_fork rfl rfl (by decide) fun d _ _ _ _ _ _ _ ih hr hx =>
    ss_cons (st_set (i := 1) hx rfl (by first | exact Or.inl rfl | exact Or.inr rfl) (s_make (Z := theLaw.Z w K) (c := 3) (x := "Field") noAX rfl rfl rfl rfl rfl (parId 1) (t.mkr 53) (ih _ rfl 19 _ rfl) (hr.mono (by omega)) (by rfl) (t.glo 8) (b_Field___init__ t) .nil (es_cons (s_fld (f := 20) hx (zok t) rfl (by rfl) (s_var (pv 0))) es_nil)) (by first | exact .inl rfl | exact .inr rfl))
    (ss_cons (st_asg (s_fld (f := 19) hx (zok t) rfl (by rfl) (s_var (pv 0))) (g_fld (f := 19) hx (zok t) rfl (s_var (pv 1))))
    (ss_cons (st_asg (s_cell (l_dcomp hx (i_seq hx (s_fld (f := 16) hx (zok t) rfl (by rfl) (s_var (pv 0)))) (own := [("seat", 2)]) (blk_ok (by kernel_rfl)) (by decide) (fun _ _ _ _ _ => g_name (pg_name (i := 2) hx.blk.nd rfl (by first | exact Or.inl rfl | exact Or.inr rfl))) (fun _ _ _ _ _ => q_nil) (fun _ _ _ _ _ => s_var (pv 2)) (fun _ _ _ _ _ => k_bl))) (g_fld (f := 16) hx (zok t) rfl (s_var (pv 1))))
    (ss_cons (st_asg (s_cell (l_list hx (by rfl) (t.free 21) (s_fld (f := 15) hx (zok t) rfl (by rfl) (s_var (pv 0))))) (g_fld (f := 15) hx (zok t) rfl (s_var (pv 1))))
    (ss_cons (st_asg (s_cell (l_list hx (by rfl) (t.free 21) (s_fld (f := 14) hx (zok t) rfl (by rfl) (s_var (pv 0))))) (g_fld (f := 14) hx (zok t) rfl (s_var (pv 1))))
    (ss_cons (st_ret (s_var (pv 1)))
    ss_nil)))))
theorem sc_Field_outcome : FnScope ["self", "found"] ["self"] (defScope s_Field_outcome) := ⟨rfl, rfl, rfl, by decide +kernel, rfl, by decide +kernel, by decide +kernel⟩
theorem ok_Field_outcome {K : Fr} {mg : Str → Option Value} (t : Tp theLaw K mg) {base : Heap} {w : World} : ∀ d, (∀ d', d = d' + 1 → theLaw.All K mg base w d') → FnOk theLaw.pw w K mg base CX0 (2 * d + 1) (a_Field_outcome K) (fdAt K (a_Field_outcome K)) ["self"] (spD (theLaw.Z w K) WW d 32 1) :=
  def_ok (mfd := f_Field_outcome) (fd_Field_outcome t) sc_Field_outcome rfl rfl (by decide) fun d _ _ _ _ _ _ _ ih hr hx =>
    ss_cons (st_set (i := 1) hx rfl (by first | exact Or.inl rfl | exact Or.inr rfl) (s_meth0 hx (mo_Field_fork t) noAX rfl rfl rfl (parId 0) (ih _ rfl 31 _ rfl) (hr.mono (by omega)) (b_Field_fork t) .nil (s_var (pv 0))) (by first | exact .inl rfl | exact .inr rfl))
    (ss_cons (s_while PassesOwn.never (t_cmp (oc_ne hx) (s_meth0 hx (mo_Field_step t) noAX rfl rfl rfl (parId 0) (ih _ rfl 26 _ rfl) (hr.mono (by omega)) (b_Field_step t) .nil (s_var (pv 1))) (s_fz (l_disp es_nil)))
    (ss_cons st_pass
    ss_nil))
    (ss_cons (st_ret (s_prop hx (po_Field_inside t) noAX rfl rfl rfl (ih _ rfl 21 _ rfl) (hr.mono (by omega)) (b_Field_inside t) (s_var (pv 1))))
    ss_nil))
theorem sc_Field_never : FnScope ["self", "inside", "seat"] ["self"] (defScope s_Field_never) := ⟨rfl, rfl, rfl, by decide +kernel, rfl, by decide +kernel, by decide +kernel⟩
theorem ok_Field_never {K : Fr} {mg : Str → Option Value} (t : Tp theLaw K mg) {base : Heap} {w : World} : ∀ d, (∀ d', d = d' + 1 → theLaw.All K mg base w d') → FnOk theLaw.pw w K mg base CX0 (2 * d + 1) (a_Field_never K) (fdAt K (a_Field_never K)) ["self"] (spD (theLaw.Z w K) WW d 33 1) :=
  def_ok (mfd := f_Field_never) (fd_Field_never t) sc_Field_never rfl rfl (by decide) fun d _ _ _ _ _ _ _ ih hr hx =>
    ss_cons (st_set (i := 1) hx rfl (by first | exact Or.inl rfl | exact Or.inr rfl) (s_meth0 hx (mo_Field_outcome t) noAX rfl rfl rfl (parId 0) (ih _ rfl 32 _ rfl) (hr.mono (by omega)) (b_Field_outcome t) .nil (s_var (pv 0))) (by first | exact .inl rfl | exact .inr rfl))
    (ss_cons (st_ret (s_fz (l_comp hx (i_seq hx (s_meth0 hx (mo_Web_seats t) noAX rfl rfl rfl (parId 0) (ih _ rfl 13 _ rfl) (hr.mono (by omega)) (b_Web_seats t) .nil (s_fld (f := 19) hx (zok t) rfl (by rfl) (s_var (pv 0))))) (own := [("seat", 2)]) (blk_ok (by kernel_rfl)) (by decide) (fun _ _ _ _ _ => g_name (pg_name (i := 2) hx.blk.nd rfl (by first | exact Or.inl rfl | exact Or.inr rfl))) (fun _ _ _ _ _ => q_one (t_cmp (oc_nin hx.blk) (s_var (pv 2)) (s_var (pv 1)))) (fun _ _ _ _ _ => s_var (pv 2)))))
    ss_nil)
theorem sc_replayed : FnScope ["web", "events", "found", "event"] ["web", "events"] (defScope s_replayed) := ⟨rfl, rfl, rfl, by decide +kernel, rfl, by decide +kernel, by decide +kernel⟩
theorem ok_replayed {K : Fr} {mg : Str → Option Value} (t : Tp theLaw K mg) {base : Heap} {w : World} : ∀ d, (∀ d', d = d' + 1 → theLaw.All K mg base w d') → FnOk theLaw.pw w K mg base CX0 (2 * d + 1) (a_replayed K) (fdAt K (a_replayed K)) ["web", "events"] (spD (theLaw.Z w K) WW d 34 2) :=
  def_ok (mfd := f_replayed) (fd_replayed t) sc_replayed rfl rfl (by decide) fun d _ _ _ _ _ _ _ ih hr hx =>
    ss_cons (st_set (i := 2) hx rfl (by first | exact Or.inl rfl | exact Or.inr rfl) (s_make (Z := theLaw.Z w K) (c := 3) (x := "Field") noAX rfl rfl rfl rfl rfl (parId 1) (t.mkr 53) (ih _ rfl 19 _ rfl) (hr.mono (by omega)) (by rfl) (t.glo 8) (b_Field___init__ t) .nil (es_cons (s_var (pv 0)) es_nil)) (by first | exact .inl rfl | exact .inr rfl))
    (ss_cons (s_for hx PassesOwn.never (i_seq hx (s_var (pv 1))) (g_name (pg_name (i := 3) hx.nd rfl (by first | exact Or.inl rfl | exact Or.inr rfl)))
    (ss_cons (st_ite (t_cmp (oc_eq hx) (s_idx hx (s_var (pv 3)) k_int) k_str)
    (ss_cons (st_expr (s_meth hx (mo_Field_enter t) noAX rfl rfl rfl (parId 1) (ih _ rfl 25 _ rfl) (hr.mono (by omega)) (b_Field_enter t) .nil (s_var (pv 2)) (es_cons (s_idx hx (s_var (pv 3)) k_int) es_nil)))
    ss_nil)
    (ss_cons (st_ite (t_cmp (oc_eq hx) (s_idx hx (s_var (pv 3)) k_int) k_str)
    (ss_cons (st_expr (s_meth0 hx (mo_Field_step t) noAX rfl rfl rfl (parId 0) (ih _ rfl 26 _ rfl) (hr.mono (by omega)) (b_Field_step t) .nil (s_var (pv 2))))
    ss_nil)
    (ss_cons (st_ite (t_cmp (oc_eq hx) (s_idx hx (s_var (pv 3)) k_int) k_str)
    (ss_cons (st_expr (s_meth hx (mo_Field_put t) noAX rfl rfl rfl (parId 1) (ih _ rfl 27 _ rfl) (hr.mono (by omega)) (b_Field_put t) .nil (s_var (pv 2)) (es_cons (s_idx hx (s_var (pv 3)) k_int) es_nil)))
    ss_nil)
    (ss_cons (st_ite (t_cmp (oc_eq hx) (s_idx hx (s_var (pv 3)) k_int) k_str)
    (ss_cons (st_expr (s_meth hx (mo_Field_leave t) noAX rfl rfl rfl (parId 1) (ih _ rfl 28 _ rfl) (hr.mono (by omega)) (b_Field_leave t) .nil (s_var (pv 2)) (es_cons (s_idx hx (s_var (pv 3)) k_int) es_nil)))
    ss_nil)
    (ss_cons (st_expr (s_meth hx (mo_Field_set_need t) noAX rfl rfl rfl (parId 2) (ih _ rfl 29 _ rfl) (hr.mono (by omega)) (b_Field_set_need t) .nil (s_var (pv 2)) (es_cons (s_idx hx (s_var (pv 3)) k_int) (es_cons (s_idx hx (s_var (pv 3)) k_int) es_nil))))
    ss_nil))
    ss_nil))
    ss_nil))
    ss_nil))
    ss_nil))
    (ss_cons (st_ret (s_var (pv 2)))
    ss_nil))
theorem sc__law_tape : FnScope ["script", "start", "mixed", "cell", "digits"] ["script", "start"] (defScope s__law_tape) := ⟨rfl, rfl, rfl, by decide +kernel, rfl, by decide +kernel, by decide +kernel⟩
theorem ok__law_tape {K : Fr} {mg : Str → Option Value} (t : Tp theLaw K mg) {base : Heap} {w : World} : ∀ d, (∀ d', d = d' + 1 → theLaw.All K mg base w d') → FnOk theLaw.pw w K mg base CX0 (2 * d + 1) (a__law_tape K) (fdAt K (a__law_tape K)) ["script", "start"] (spD (theLaw.Z w K) WW d 35 2) :=
  def_ok (mfd := f__law_tape) (fd__law_tape t) sc__law_tape rfl rfl (by decide) fun d _ _ _ _ _ _ _ ih hr hx =>
    ss_cons (st_set (i := 2) hx rfl (by first | exact Or.inl rfl | exact Or.inr rfl) (s_add hx k_int (s_mul (s_var (pv 1)) k_int)) (by first | exact .inl rfl | exact .inr rfl))
    (ss_cons (s_for hx PassesOwn.never (i_seq hx (s_var (pv 0))) (g_name (pg_name (i := 3) hx.nd rfl (by first | exact Or.inl rfl | exact Or.inr rfl)))
    (ss_cons (st_set (i := 2) hx rfl (by first | exact Or.inl rfl | exact Or.inr rfl) (s_add hx (s_mod (b_int hx (by rfl) (t.free 19) (s_pow (s_add hx (s_add hx (s_mul (s_var (pv 2)) k_int) (s_mul (s_var (pv 3)) (s_var (pv 3)))) k_int) k_int)) k_int) k_int) (by first | exact .inl rfl | exact .inr rfl))
    ss_nil))
    (ss_cons (st_set (i := 4) hx rfl (by first | exact Or.inl rfl | exact Or.inr rfl) (s_ite (PW.pt (t_and (t_cmp oc_lt (s_var (pv 1)) (b_len hx (by rfl) (t.free 18) (s_var (pv 0)))) (t_and1 (t_cmp oc_ge (s_idx hx (s_var (pv 0)) (s_var (pv 1))) (s_pow k_int k_int))))) (s_sub (s_idx hx (s_var (pv 0)) (s_var (pv 1))) (s_pow k_int k_int)) k_int) (by first | exact .inl rfl | exact .inr rfl))
    (ss_cons (st_ret (s_cell (l_ddisp hx (ks0_cons k_str (s_var (pv 4)) (ks0_cons k_str (s_var (pv 2)) ks0_nil)))))
    ss_nil)))
theorem sc__law_pick : FnScope ["tape", "many", "found", "once"] ["tape", "many"] (defScope s__law_pick) := ⟨rfl, rfl, rfl, by decide +kernel, rfl, by decide +kernel, by decide +kernel⟩
theorem ok__law_pick {K : Fr} {mg : Str → Option Value} (t : Tp theLaw K mg) {base : Heap} {w : World} : ∀ d, (∀ d', d = d' + 1 → theLaw.All K mg base w d') → FnOk theLaw.pw w K mg base CX0 (2 * d + 1) (a__law_pick K) (fdAt K (a__law_pick K)) ["tape", "many"] (spD (theLaw.Z w K) WW d 36 2) :=
  def_ok (mfd := f__law_pick) (fd__law_pick t) sc__law_pick rfl rfl (by decide) fun d _ _ _ _ _ _ _ ih hr hx =>
    ss_cons (st_ite (t_cmp oc_ge (s_idx hx (s_var (pv 0)) k_str) (s_var (pv 1)))
    (ss_cons (st_set (i := 2) hx rfl (by first | exact Or.inl rfl | exact Or.inr rfl) (s_mod (b_int hx (by rfl) (t.free 19) (s_idx hx (s_var (pv 0)) k_str)) (s_var (pv 1))) (by first | exact .inl rfl | exact .inr rfl))
    (ss_cons (st_asg (s_fdiv (s_idx hx (s_var (pv 0)) k_str) (s_var (pv 1))) (g_sub hx (s_var (pv 0)) k_str))
    (ss_cons (st_ret (s_var (pv 2)))
    ss_nil)))
    ss_nil)
    (ss_cons (st_asg (s_mod (b_int hx (by rfl) (t.free 19) (s_add hx (s_mul (s_idx hx (s_var (pv 0)) k_str) k_int) k_int)) k_int) (g_sub hx (s_var (pv 0)) k_str))
    (ss_cons (st_set (i := 3) hx rfl (by first | exact Or.inl rfl | exact Or.inr rfl) (s_mod (b_int hx (by rfl) (t.free 19) (s_pow (s_idx hx (s_var (pv 0)) k_str) k_int)) k_int) (by first | exact .inl rfl | exact .inr rfl))
    (ss_cons (st_ret (s_mod (b_int hx (by rfl) (t.free 19) (s_fdiv (s_mod (b_int hx (by rfl) (t.free 19) (s_pow (s_var (pv 3)) k_int)) k_int) k_int)) (s_var (pv 1))))
    ss_nil)))
theorem sc__law_row_right : FnScope ["many", "path", "field", "told_here", "at"] ["many"] (defScope s__law_row_right) := ⟨rfl, rfl, rfl, by decide +kernel, rfl, by decide +kernel, by decide +kernel⟩
theorem ok__law_row_right {K : Fr} {mg : Str → Option Value} (t : Tp theLaw K mg) {base : Heap} {w : World} : ∀ d, (∀ d', d = d' + 1 → theLaw.All K mg base w d') → FnOk theLaw.pw w K mg base CX0 (2 * d + 1) (a__law_row_right K) (fdAt K (a__law_row_right K)) ["many"] (spD (theLaw.Z w K) WW d 37 1) :=
  def_ok (mfd := f__law_row_right) (fd__law_row_right t) sc__law_row_right rfl rfl (by decide) fun d _ _ _ _ _ _ _ ih hr hx =>
    ss_cons (st_set (i := 1) hx rfl (by first | exact Or.inl rfl | exact Or.inr rfl) ((b_Frame___init___outer t).elim fun _ hb => s_makeN (Z := theLaw.Z w K) (c := 0) (x := "Frame") noAX rfl rfl rfl rfl rfl (pk_Frame___init___outer t) (t.mkr 30) (ih _ rfl 3 _ rfl) (hr.mono (by omega)) (by rfl) (t.glo 3) hb (es_cons k_int es_nil) (ks_cons (s_fz (l_disp (es_cons (s_tup (es_cons k_int (es_cons k_int es_nil)) hx) es_nil))) ks_nil) rfl) (by first | exact .inl rfl | exact .inr rfl))
    (ss_cons (st_set (i := 2) hx rfl (by first | exact Or.inl rfl | exact Or.inr rfl) (s_make (Z := theLaw.Z w K) (c := 3) (x := "Field") noAX rfl rfl rfl rfl rfl (parId 1) (t.mkr 53) (ih _ rfl 19 _ rfl) (hr.mono (by omega)) (by rfl) (t.glo 8) (b_Field___init__ t) .nil (es_cons ((b_Web___init__ t).elim fun _ hb => s_make (Z := theLaw.Z w K) (c := 2) (x := "Web") noAX rfl rfl rfl rfl rfl (pd_Web___init__ t) (t.mkr 43) (ih _ rfl 12 _ rfl) (hr.mono (by omega)) (by rfl) (t.glo 7) hb.2 hb.1 (es_cons (s_make (Z := theLaw.Z w K) (c := 1) (x := "Stretch") noAX rfl rfl rfl rfl rfl (parId 2) (t.mkr 38) (ih _ rfl 9 _ rfl) (hr.mono (by omega)) (by rfl) (t.glo 6) (b_Stretch___init__ t) .nil (es_cons (s_var (pv 1)) (es_cons (s_fz (l_cat (s_fz (l_disp (es_cons (s_tup (es_cons (s_tup (es_cons k_int (es_cons k_bl es_nil)) hx) es_nil) hx) es_nil))) (s_fz (l_rep (s_fz (l_disp (es_cons (s_tup (es_cons (s_tup (es_cons k_int (es_cons k_bl es_nil)) hx) es_nil) hx) es_nil))) (s_var (pv 0)))))) es_nil))) es_nil)) es_nil)) (by first | exact .inl rfl | exact .inr rfl))
    (ss_cons (st_set (i := 3) hx rfl (by first | exact Or.inl rfl | exact Or.inr rfl) (s_fz (l_disp (es_cons (s_meth0 hx (mo_Field_step t) noAX rfl rfl rfl (parId 0) (ih _ rfl 26 _ rfl) (hr.mono (by omega)) (b_Field_step t) .nil (s_var (pv 2))) (es_cons (s_meth hx (mo_Field_leave t) noAX rfl rfl rfl (parId 1) (ih _ rfl 28 _ rfl) (hr.mono (by omega)) (b_Field_leave t) .nil (s_var (pv 2)) (es_cons (s_tup (es_cons k_int (es_cons k_int es_nil)) hx) es_nil)) (es_cons (s_prop hx (po_Field_inside t) noAX rfl rfl rfl (ih _ rfl 21 _ rfl) (hr.mono (by omega)) (b_Field_inside t) (s_var (pv 2))) (es_cons (s_meth0 hx (mo_Field_can_join t) noAX rfl rfl rfl (parId 0) (ih _ rfl 23 _ rfl) (hr.mono (by omega)) (b_Field_can_join t) .nil (s_var (pv 2))) (es_cons (s_meth hx (mo_Field_enter t) noAX rfl rfl rfl (parId 1) (ih _ rfl 25 _ rfl) (hr.mono (by omega)) (b_Field_enter t) .nil (s_var (pv 2)) (es_cons (s_tup (es_cons k_int (es_cons k_int es_nil)) hx) es_nil)) (es_cons (s_meth hx (mo_Field_leave t) noAX rfl rfl rfl (parId 1) (ih _ rfl 28 _ rfl) (hr.mono (by omega)) (b_Field_leave t) .nil (s_var (pv 2)) (es_cons (s_tup (es_cons k_int (es_cons k_int es_nil)) hx) es_nil)) (es_cons (s_meth0 hx (mo_Field_can_join t) noAX rfl rfl rfl (parId 0) (ih _ rfl 23 _ rfl) (hr.mono (by omega)) (b_Field_can_join t) .nil (s_var (pv 2))) es_nil))))))))) (by first | exact .inl rfl | exact .inr rfl))
    (ss_cons (st_ite (t_cmp (oc_ne hx) (s_var (pv 3)) (s_fz (l_disp (es_cons (s_fz (l_disp (es_cons (s_tup (es_cons k_int (es_cons k_int es_nil)) hx) es_nil))) (es_cons k_non (es_cons (s_fz (l_disp (es_cons (s_tup (es_cons k_int (es_cons k_int es_nil)) hx) es_nil))) (es_cons (s_fz (l_disp (es_cons (s_tup (es_cons k_int (es_cons k_int es_nil)) hx) (es_cons (s_tup (es_cons k_int (es_cons k_int es_nil)) hx) es_nil)))) (es_cons k_non (es_cons k_non (es_cons (s_fz (l_disp (es_cons (s_tup (es_cons k_int (es_cons k_int es_nil)) hx) (es_cons (s_tup (es_cons k_int (es_cons k_int es_nil)) hx) es_nil)))) es_nil))))))))))
    (ss_cons (st_ret k_bl)
    ss_nil)
    ss_nil)
    (ss_cons (st_ite (PW.pt (t_or (t_cmp (oc_ne hx) (s_meth0 hx (mo_Field_outcome t) noAX rfl rfl rfl (parId 0) (ih _ rfl 32 _ rfl) (hr.mono (by omega)) (b_Field_outcome t) .nil (s_var (pv 2))) (s_fz (l_comp hx (i_range1 (by rfl) (t.free 25) (s_add hx (s_var (pv 0)) k_int)) (own := [("at", 4)]) (blk_ok (by kernel_rfl)) (by decide) (fun _ _ _ _ _ => g_name (pg_name (i := 4) hx.blk.nd rfl (by first | exact Or.inl rfl | exact Or.inr rfl))) (fun _ _ _ _ _ => q_nil) (fun _ _ _ _ _ => s_tup (es_cons (s_var (pv 4)) (es_cons k_int es_nil)) hx.blk)))) (t_or (t_cmp oc_isn (s_meth hx (mo_Field_set_need t) noAX rfl rfl rfl (parId 2) (ih _ rfl 29 _ rfl) (hr.mono (by omega)) (b_Field_set_need t) .nil (s_var (pv 2)) (es_cons (s_tup (es_cons k_int (es_cons k_int es_nil)) hx) (es_cons k_int es_nil))) k_non) (t_or1 (t_cmp (oc_ne hx) (s_meth0 hx (mo_Field_never t) noAX rfl rfl rfl (parId 0) (ih _ rfl 33 _ rfl) (hr.mono (by omega)) (b_Field_never t) .nil (s_var (pv 2))) (s_fz (l_disp (es_cons (s_tup (es_cons k_int (es_cons k_int es_nil)) hx) es_nil))))))))
    (ss_cons (st_ret k_bl)
    ss_nil)
    ss_nil)
    (ss_cons (st_ite (PW.pt (t_or (t_cmp (oc_ne hx) (s_meth hx (mo_Web_cell t) noAX rfl rfl rfl (parId 1) (ih _ rfl 16 _ rfl) (hr.mono (by omega)) (b_Web_cell t) .nil (s_prop hx (po_Field_web t) noAX rfl rfl rfl (ih _ rfl 20 _ rfl) (hr.mono (by omega)) (b_Field_web t) (s_var (pv 2))) (es_cons (s_tup (es_cons k_int (es_cons k_int es_nil)) hx) es_nil)) (s_tup (es_cons k_int (es_cons k_bl es_nil)) hx)) (t_or (t_cmp oc_isn (s_meth hx (mo_Field_put t) noAX rfl rfl rfl (parId 1) (ih _ rfl 27 _ rfl) (hr.mono (by omega)) (b_Field_put t) .nil (s_var (pv 2)) (es_cons (s_tup (es_cons k_int (es_cons k_int es_nil)) hx) es_nil)) k_non) (t_or1 (t_cmp (oc_ne hx) (s_prop hx (po_Field_inside t) noAX rfl rfl rfl (ih _ rfl 21 _ rfl) (hr.mono (by omega)) (b_Field_inside t) (s_var (pv 2))) (s_fz (l_disp (es_cons (s_tup (es_cons k_int (es_cons k_int es_nil)) hx) (es_cons (s_tup (es_cons k_int (es_cons k_int es_nil)) hx) es_nil)))))))))
    (ss_cons (st_ret k_bl)
    ss_nil)
    ss_nil)
    (ss_cons (st_set (i := 3) hx rfl (by first | exact Or.inl rfl | exact Or.inr rfl) (s_fz (l_disp (es_cons (s_meth0 hx (mo_Field_undo t) noAX rfl rfl rfl (parId 0) (ih _ rfl 30 _ rfl) (hr.mono (by omega)) (b_Field_undo t) .nil (s_var (pv 2))) (es_cons (s_meth0 hx (mo_Field_undo t) noAX rfl rfl rfl (parId 0) (ih _ rfl 30 _ rfl) (hr.mono (by omega)) (b_Field_undo t) .nil (s_var (pv 2))) (es_cons (s_meth0 hx (mo_Field_undo t) noAX rfl rfl rfl (parId 0) (ih _ rfl 30 _ rfl) (hr.mono (by omega)) (b_Field_undo t) .nil (s_var (pv 2))) es_nil))))) (by first | exact .inl rfl | exact .inr rfl))
    (ss_cons (st_ite (PW.pt (t_or (t_cmp (oc_ne hx) (s_var (pv 3)) (s_fz (l_disp (es_cons (s_tup (es_cons k_str (es_cons (s_tup (es_cons k_int (es_cons k_int es_nil)) hx) es_nil)) hx) (es_cons (s_tup (es_cons k_str (es_cons (s_tup (es_cons k_int (es_cons k_int es_nil)) hx) (es_cons k_int es_nil))) hx) (es_cons (s_tup (es_cons k_str (es_cons (s_tup (es_cons k_int (es_cons k_int es_nil)) hx) es_nil)) hx) es_nil)))))) (t_or1 (t_cmp (oc_ne hx) (s_meth hx (mo_Web_cell t) noAX rfl rfl rfl (parId 1) (ih _ rfl 16 _ rfl) (hr.mono (by omega)) (b_Web_cell t) .nil (s_prop hx (po_Field_web t) noAX rfl rfl rfl (ih _ rfl 20 _ rfl) (hr.mono (by omega)) (b_Field_web t) (s_var (pv 2))) (es_cons (s_tup (es_cons k_int (es_cons k_int es_nil)) hx) es_nil)) (s_tup (es_cons k_int (es_cons k_bl es_nil)) hx)))))
    (ss_cons (st_ret k_bl)
    ss_nil)
    ss_nil)
    (ss_cons (st_ret (s_and hx (s_cmp (oc_eq hx) (s_prop hx (po_Field_inside t) noAX rfl rfl rfl (ih _ rfl 21 _ rfl) (hr.mono (by omega)) (b_Field_inside t) (s_var (pv 2))) (s_fz (l_disp (es_cons (s_tup (es_cons k_int (es_cons k_int es_nil)) hx) (es_cons (s_tup (es_cons k_int (es_cons k_int es_nil)) hx) es_nil))))) (s_one (s_cmp (oc_eq hx) (s_prop hx (po_Field_history t) noAX rfl rfl rfl (ih _ rfl 22 _ rfl) (hr.mono (by omega)) (b_Field_history t) (s_var (pv 2))) (s_fz (l_disp (es_cons (s_tup (es_cons k_str es_nil) hx) (es_cons (s_tup (es_cons k_str (es_cons (s_tup (es_cons k_int (es_cons k_int es_nil)) hx) es_nil)) hx) (es_cons (s_tup (es_cons k_str (es_cons (s_tup (es_cons k_int (es_cons k_int es_nil)) hx) es_nil)) hx) es_nil)))))))))
    ss_nil))))))))
theorem sc__law_ring_right : FnScope ["many", "path", "field", "turn", "at"] ["many"] (defScope s__law_ring_right) := ⟨rfl, rfl, rfl, by decide +kernel, rfl, by decide +kernel, by decide +kernel⟩
theorem ok__law_ring_right {K : Fr} {mg : Str → Option Value} (t : Tp theLaw K mg) {base : Heap} {w : World} : ∀ d, (∀ d', d = d' + 1 → theLaw.All K mg base w d') → FnOk theLaw.pw w K mg base CX0 (2 * d + 1) (a__law_ring_right K) (fdAt K (a__law_ring_right K)) ["many"] (spD (theLaw.Z w K) WW d 38 1) :=
  def_ok (mfd := f__law_ring_right) (fd__law_ring_right t) sc__law_ring_right rfl rfl (by decide) fun d _ _ _ _ _ _ _ ih hr hx =>
    ss_cons (st_set (i := 1) hx rfl (by first | exact Or.inl rfl | exact Or.inr rfl) ((b_Frame___init___outer t).elim fun _ hb => s_makeN (Z := theLaw.Z w K) (c := 0) (x := "Frame") noAX rfl rfl rfl rfl rfl (pk_Frame___init___outer t) (t.mkr 30) (ih _ rfl 3 _ rfl) (hr.mono (by omega)) (by rfl) (t.glo 3) hb (es_cons k_int es_nil) (ks_cons (s_fz (l_disp (es_cons (s_tup (es_cons k_int (es_cons k_int es_nil)) hx) es_nil))) ks_nil) rfl) (by first | exact .inl rfl | exact .inr rfl))
    (ss_cons (st_set (i := 2) hx rfl (by first | exact Or.inl rfl | exact Or.inr rfl) (s_make (Z := theLaw.Z w K) (c := 3) (x := "Field") noAX rfl rfl rfl rfl rfl (parId 1) (t.mkr 53) (ih _ rfl 19 _ rfl) (hr.mono (by omega)) (by rfl) (t.glo 8) (b_Field___init__ t) .nil (es_cons ((b_Web___init___closed t).elim fun _ hb => s_makeN (Z := theLaw.Z w K) (c := 2) (x := "Web") noAX rfl rfl rfl rfl rfl (pk_Web___init___closed t) (t.mkr 43) (ih _ rfl 12 _ rfl) (hr.mono (by omega)) (by rfl) (t.glo 7) hb (es_cons (s_make (Z := theLaw.Z w K) (c := 1) (x := "Stretch") noAX rfl rfl rfl rfl rfl (parId 2) (t.mkr 38) (ih _ rfl 9 _ rfl) (hr.mono (by omega)) (by rfl) (t.glo 6) (b_Stretch___init__ t) .nil (es_cons (s_var (pv 1)) (es_cons (s_fz (l_comp hx (i_range1 (by rfl) (t.free 25) (s_mul k_int (s_var (pv 0)))) (own := [("at", 4)]) (blk_ok (by kernel_rfl)) (by decide) (fun _ _ _ _ _ => g_name (pg_name (i := 4) hx.blk.nd rfl (by first | exact Or.inl rfl | exact Or.inr rfl))) (fun _ _ _ _ _ => q_nil) (fun _ _ _ _ _ => s_tup (es_cons (s_tup (es_cons k_int (es_cons (s_cmp (oc_eq hx.blk) (s_mod (s_var (pv 4)) k_int) k_int) es_nil)) hx.blk) es_nil) hx.blk))) es_nil))) es_nil) (ks_cons k_bl ks_nil) rfl) es_nil)) (by first | exact .inl rfl | exact .inr rfl))
    (ss_cons (st_ite (PW.pt (t_or (t_cmp (oc_ne hx) (s_meth0 hx (mo_Field_can_join t) noAX rfl rfl rfl (parId 0) (ih _ rfl 23 _ rfl) (hr.mono (by omega)) (b_Field_can_join t) .nil (s_var (pv 2))) (s_fz (l_comp hx (i_range3 (by rfl) (t.free 25) k_int (s_mul k_int (s_var (pv 0))) k_int) (own := [("at", 4)]) (blk_ok (by kernel_rfl)) (by decide) (fun _ _ _ _ _ => g_name (pg_name (i := 4) hx.blk.nd rfl (by first | exact Or.inl rfl | exact Or.inr rfl))) (fun _ _ _ _ _ => q_nil) (fun _ _ _ _ _ => s_tup (es_cons (s_var (pv 4)) (es_cons k_int es_nil)) hx.blk)))) (t_or1 (t_cmp (oc_ne hx) (s_meth0 hx (mo_Field_never t) noAX rfl rfl rfl (parId 0) (ih _ rfl 33 _ rfl) (hr.mono (by omega)) (b_Field_never t) .nil (s_var (pv 2))) (s_fz (l_disp es_nil))))))
    (ss_cons (st_ret k_bl)
    ss_nil)
    ss_nil)
    (ss_cons (st_expr (s_meth hx (mo_Field_leave t) noAX rfl rfl rfl (parId 1) (ih _ rfl 28 _ rfl) (hr.mono (by omega)) (b_Field_leave t) .nil (s_var (pv 2)) (es_cons (s_tup (es_cons k_int (es_cons k_int es_nil)) hx) es_nil)))
    (ss_cons (st_ite (t_cmp (oc_ne hx) (s_meth0 hx (mo_Field_never t) noAX rfl rfl rfl (parId 0) (ih _ rfl 33 _ rfl) (hr.mono (by omega)) (b_Field_never t) .nil (s_var (pv 2))) (s_fz (l_disp (es_cons (s_tup (es_cons k_int (es_cons k_int es_nil)) hx) (es_cons (s_tup (es_cons k_int (es_cons k_int es_nil)) hx) (es_cons (s_tup (es_cons (s_sub (s_mul k_int (s_var (pv 0))) k_int) (es_cons k_int es_nil)) hx) es_nil))))))
    (ss_cons (st_ret k_bl)
    ss_nil)
    ss_nil)
    (ss_cons (s_for hx PassesOwn.never (i_range1 (by rfl) (t.free 25) k_int) (g_name (pg_name (i := 3) hx.nd rfl (by first | exact Or.inl rfl | exact Or.inr rfl)))
    (ss_cons (st_expr (s_meth hx (mo_Field_put t) noAX rfl rfl rfl (parId 1) (ih _ rfl 27 _ rfl) (hr.mono (by omega)) (b_Field_put t) .nil (s_var (pv 2)) (es_cons (s_tup (es_cons k_int (es_cons k_int es_nil)) hx) es_nil)))
    (ss_cons (st_expr (s_meth hx (mo_Field_leave t) noAX rfl rfl rfl (parId 1) (ih _ rfl 28 _ rfl) (hr.mono (by omega)) (b_Field_leave t) .nil (s_var (pv 2)) (es_cons (s_tup (es_cons k_int (es_cons k_int es_nil)) hx) es_nil)))
    ss_nil)))
    (ss_cons (s_for hx PassesOwn.never (i_range1 (by rfl) (t.free 25) k_int) (g_name (pg_name (i := 3) hx.nd rfl (by first | exact Or.inl rfl | exact Or.inr rfl)))
    (ss_cons (st_expr (s_meth0 hx (mo_Field_undo t) noAX rfl rfl rfl (parId 0) (ih _ rfl 30 _ rfl) (hr.mono (by omega)) (b_Field_undo t) .nil (s_var (pv 2))))
    ss_nil))
    (ss_cons (st_expr (s_meth hx (mo_Field_set_need t) noAX rfl rfl rfl (parId 2) (ih _ rfl 29 _ rfl) (hr.mono (by omega)) (b_Field_set_need t) .nil (s_var (pv 2)) (es_cons (s_tup (es_cons k_int (es_cons k_int es_nil)) hx) (es_cons k_int es_nil))))
    (ss_cons (st_ite (t_cmp (oc_ne hx) (s_meth0 hx (mo_Field_never t) noAX rfl rfl rfl (parId 0) (ih _ rfl 33 _ rfl) (hr.mono (by omega)) (b_Field_never t) .nil (s_var (pv 2))) (s_fz (l_disp (es_cons (s_tup (es_cons k_int (es_cons k_int es_nil)) hx) (es_cons (s_tup (es_cons (s_sub (s_mul k_int (s_var (pv 0))) k_int) (es_cons k_int es_nil)) hx) es_nil)))))
    (ss_cons (st_ret k_bl)
    ss_nil)
    ss_nil)
    (ss_cons (st_expr (s_meth hx (mo_Field_set_need t) noAX rfl rfl rfl (parId 2) (ih _ rfl 29 _ rfl) (hr.mono (by omega)) (b_Field_set_need t) .nil (s_var (pv 2)) (es_cons (s_tup (es_cons k_int (es_cons k_int es_nil)) hx) (es_cons k_int es_nil))))
    (ss_cons (st_ret (s_and hx (s_cmp (oc_eq hx) (s_meth0 hx (mo_Field_never t) noAX rfl rfl rfl (parId 0) (ih _ rfl 33 _ rfl) (hr.mono (by omega)) (b_Field_never t) .nil (s_var (pv 2))) (s_fz (l_disp es_nil))) (s_and hx (s_cmp (oc_eq hx) (b_len hx (by rfl) (t.free 18) (s_prop hx (po_Field_history t) noAX rfl rfl rfl (ih _ rfl 22 _ rfl) (hr.mono (by omega)) (b_Field_history t) (s_var (pv 2)))) k_int) (s_one (s_cmp (oc_eq hx) (s_meth0 hx (mo_Field_outcome t) noAX rfl rfl rfl (parId 0) (ih _ rfl 32 _ rfl) (hr.mono (by omega)) (b_Field_outcome t) .nil (s_var (pv 2))) (s_fz (l_comp hx (i_range1 (by rfl) (t.free 25) (s_mul k_int (s_var (pv 0)))) (own := [("at", 4)]) (blk_ok (by kernel_rfl)) (by decide) (fun _ _ _ _ _ => g_name (pg_name (i := 4) hx.blk.nd rfl (by first | exact Or.inl rfl | exact Or.inr rfl))) (fun _ _ _ _ _ => q_nil) (fun _ _ _ _ _ => s_tup (es_cons (s_var (pv 4)) (es_cons k_int es_nil)) hx.blk))))))))
    ss_nil))))))))))
theorem sc__law_replayed_right : FnScope ["many", "web", "events", "three", "was", "field", "at"] ["many"] (defScope s__law_replayed_right) := ⟨rfl, rfl, rfl, by decide +kernel, rfl, by decide +kernel, by decide +kernel⟩
theorem ok__law_replayed_right {K : Fr} {mg : Str → Option Value} (t : Tp theLaw K mg) {base : Heap} {w : World} : ∀ d, (∀ d', d = d' + 1 → theLaw.All K mg base w d') → FnOk theLaw.pw w K mg base CX0 (2 * d + 1) (a__law_replayed_right K) (fdAt K (a__law_replayed_right K)) ["many"] (spD (theLaw.Z w K) WW d 39 1) :=
  def_ok (mfd := f__law_replayed_right) (fd__law_replayed_right t) sc__law_replayed_right rfl rfl (by decide) fun d _ _ _ _ _ _ _ ih hr hx =>
    ss_cons (st_set (i := 1) hx rfl (by first | exact Or.inl rfl | exact Or.inr rfl) ((b_Web___init__ t).elim fun _ hb => s_make (Z := theLaw.Z w K) (c := 2) (x := "Web") noAX rfl rfl rfl rfl rfl (pd_Web___init__ t) (t.mkr 43) (ih _ rfl 12 _ rfl) (hr.mono (by omega)) (by rfl) (t.glo 7) hb.2 hb.1 (es_cons (s_make (Z := theLaw.Z w K) (c := 1) (x := "Stretch") noAX rfl rfl rfl rfl rfl (parId 2) (t.mkr 38) (ih _ rfl 9 _ rfl) (hr.mono (by omega)) (by rfl) (t.glo 6) (b_Stretch___init__ t) .nil (es_cons ((b_Frame___init___outer t).elim fun _ hb => s_makeN (Z := theLaw.Z w K) (c := 0) (x := "Frame") noAX rfl rfl rfl rfl rfl (pk_Frame___init___outer t) (t.mkr 30) (ih _ rfl 3 _ rfl) (hr.mono (by omega)) (by rfl) (t.glo 3) hb (es_cons k_int es_nil) (ks_cons (s_fz (l_disp (es_cons (s_tup (es_cons k_int (es_cons k_int es_nil)) hx) es_nil))) ks_nil) rfl) (es_cons (s_fz (l_cat (s_fz (l_disp (es_cons (s_tup (es_cons (s_tup (es_cons k_int (es_cons k_bl es_nil)) hx) es_nil) hx) es_nil))) (s_fz (l_rep (s_fz (l_disp (es_cons (s_tup (es_cons (s_tup (es_cons k_int (es_cons k_bl es_nil)) hx) es_nil) hx) es_nil))) k_int)))) es_nil))) es_nil)) (by first | exact .inl rfl | exact .inr rfl))
    (ss_cons (st_set (i := 2) hx rfl (by first | exact Or.inl rfl | exact Or.inr rfl) (s_fz (l_cat (s_fz (l_rep (s_fz (l_disp (es_cons (s_tup (es_cons k_str (es_cons (s_tup (es_cons k_int (es_cons k_int es_nil)) hx) es_nil)) hx) (es_cons (s_tup (es_cons k_str (es_cons (s_tup (es_cons k_int (es_cons k_int es_nil)) hx) es_nil)) hx) es_nil)))) (s_var (pv 0)))) (s_fz (l_rep (s_fz (l_disp (es_cons (s_tup (es_cons k_str es_nil) hx) es_nil))) (s_var (pv 0)))))) (by first | exact .inl rfl | exact .inr rfl))
    (ss_cons (st_set (i := 3) hx rfl (by first | exact Or.inl rfl | exact Or.inr rfl) (s_make (Z := theLaw.Z w K) (c := 3) (x := "Field") noAX rfl rfl rfl rfl rfl (parId 1) (t.mkr 53) (ih _ rfl 19 _ rfl) (hr.mono (by omega)) (by rfl) (t.glo 8) (b_Field___init__ t) .nil (es_cons ((b_Web___init__ t).elim fun _ hb => s_make (Z := theLaw.Z w K) (c := 2) (x := "Web") noAX rfl rfl rfl rfl rfl (pd_Web___init__ t) (t.mkr 43) (ih _ rfl 12 _ rfl) (hr.mono (by omega)) (by rfl) (t.glo 7) hb.2 hb.1 (es_cons (s_make (Z := theLaw.Z w K) (c := 1) (x := "Stretch") noAX rfl rfl rfl rfl rfl (parId 2) (t.mkr 38) (ih _ rfl 9 _ rfl) (hr.mono (by omega)) (by rfl) (t.glo 6) (b_Stretch___init__ t) .nil (es_cons ((b_Frame___init___outer t).elim fun _ hb => s_makeN (Z := theLaw.Z w K) (c := 0) (x := "Frame") noAX rfl rfl rfl rfl rfl (pk_Frame___init___outer t) (t.mkr 30) (ih _ rfl 3 _ rfl) (hr.mono (by omega)) (by rfl) (t.glo 3) hb (es_cons k_int es_nil) (ks_cons (s_fz (l_disp (es_cons (s_tup (es_cons k_int (es_cons k_int es_nil)) hx) es_nil))) ks_nil) rfl) (es_cons (s_fz (l_rep (s_fz (l_disp (es_cons (s_tup (es_cons (s_tup (es_cons k_int (es_cons k_bl es_nil)) hx) es_nil) hx) es_nil))) k_int)) es_nil))) es_nil)) es_nil)) (by first | exact .inl rfl | exact .inr rfl))
    (ss_cons (st_expr (s_meth hx (mo_Field_put t) noAX rfl rfl rfl (parId 1) (ih _ rfl 27 _ rfl) (hr.mono (by omega)) (b_Field_put t) .nil (s_var (pv 3)) (es_cons (s_tup (es_cons k_int (es_cons k_int es_nil)) hx) es_nil)))
    (ss_cons (st_set (i := 4) hx rfl (by first | exact Or.inl rfl | exact Or.inr rfl) (s_meth0 hx (mo_Field_outcome t) noAX rfl rfl rfl (parId 0) (ih _ rfl 32 _ rfl) (hr.mono (by omega)) (b_Field_outcome t) .nil (s_var (pv 3))) (by first | exact .inl rfl | exact .inr rfl))
    (ss_cons (st_expr (s_meth0 hx (mo_Field_undo t) noAX rfl rfl rfl (parId 0) (ih _ rfl 30 _ rfl) (hr.mono (by omega)) (b_Field_undo t) .nil (s_var (pv 3))))
    (ss_cons (st_expr (s_meth hx (mo_Field_set_need t) noAX rfl rfl rfl (parId 2) (ih _ rfl 29 _ rfl) (hr.mono (by omega)) (b_Field_set_need t) .nil (s_var (pv 3)) (es_cons (s_tup (es_cons k_int (es_cons k_int es_nil)) hx) (es_cons k_int es_nil))))
    (ss_cons (st_ite (t_cmp (oc_ne hx) (s_fz (l_disp (es_cons (s_var (pv 4)) (es_cons (s_meth0 hx (mo_Field_outcome t) noAX rfl rfl rfl (parId 0) (ih _ rfl 32 _ rfl) (hr.mono (by omega)) (b_Field_outcome t) .nil (s_var (pv 3))) (es_cons (s_meth0 hx (mo_Field_never t) noAX rfl rfl rfl (parId 0) (ih _ rfl 33 _ rfl) (hr.mono (by omega)) (b_Field_never t) .nil (s_var (pv 3))) (es_cons (s_meth0 hx (mo_Field_can_join t) noAX rfl rfl rfl (parId 0) (ih _ rfl 23 _ rfl) (hr.mono (by omega)) (b_Field_can_join t) .nil (s_var (pv 3))) es_nil)))))) (s_fz (l_disp (es_cons (s_meth0 hx (mo_Web_seats t) noAX rfl rfl rfl (parId 0) (ih _ rfl 13 _ rfl) (hr.mono (by omega)) (b_Web_seats t) .nil (s_prop hx (po_Field_web t) noAX rfl rfl rfl (ih _ rfl 20 _ rfl) (hr.mono (by omega)) (b_Field_web t) (s_var (pv 3)))) (es_cons (s_fz (l_disp es_nil)) (es_cons (s_meth0 hx (mo_Web_seats t) noAX rfl rfl rfl (parId 0) (ih _ rfl 13 _ rfl) (hr.mono (by omega)) (b_Web_seats t) .nil (s_prop hx (po_Field_web t) noAX rfl rfl rfl (ih _ rfl 20 _ rfl) (hr.mono (by omega)) (b_Field_web t) (s_var (pv 3)))) (es_cons (s_fz (l_disp es_nil)) es_nil)))))))
    (ss_cons (st_ret k_bl)
    ss_nil)
    ss_nil)
    (ss_cons (st_set (i := 5) hx rfl (by first | exact Or.inl rfl | exact Or.inr rfl) (s_call noAX rfl rfl rfl (parId 2) (ih _ rfl 34 _ rfl) (hr.mono (by omega)) (by rfl) (t.glo 9) (fd_replayed t).kp (b_replayed t) .nil (es_cons (s_var (pv 1)) (es_cons (s_var (pv 2)) es_nil))) (by first | exact .inl rfl | exact .inr rfl))
    (ss_cons (st_ret (s_and hx (s_cmp (oc_eq hx) (s_prop hx (po_Field_history t) noAX rfl rfl rfl (ih _ rfl 22 _ rfl) (hr.mono (by omega)) (b_Field_history t) (s_var (pv 5))) (s_var (pv 2))) (s_and hx (s_cmp (oc_eq hx) (s_prop hx (po_Field_inside t) noAX rfl rfl rfl (ih _ rfl 21 _ rfl) (hr.mono (by omega)) (b_Field_inside t) (s_var (pv 5))) (s_fz (l_comp hx (i_range1 (by rfl) (t.free 25) (b_min2 hx (by rfl) (t.free 23) k_int (s_add hx (s_var (pv 0)) k_int))) (own := [("at", 6)]) (blk_ok (by kernel_rfl)) (by decide) (fun _ _ _ _ _ => g_name (pg_name (i := 6) hx.blk.nd rfl (by first | exact Or.inl rfl | exact Or.inr rfl))) (fun _ _ _ _ _ => q_nil) (fun _ _ _ _ _ => s_tup (es_cons (s_var (pv 6)) (es_cons k_int es_nil)) hx.blk)))) (s_one (s_cmp (oc_eq hx) (s_meth0 hx (mo_Field_undo t) noAX rfl rfl rfl (parId 0) (ih _ rfl 30 _ rfl) (hr.mono (by omega)) (b_Field_undo t) .nil (s_var (pv 5))) (s_tup (es_cons k_str es_nil) hx))))))
    ss_nil)))))))))
theorem sc_law : FnScope ["script", "start", "tape", "free"] ["script"] (defScope s_law) := ⟨rfl, rfl, rfl, by decide +kernel, rfl, by decide +kernel, by decide +kernel⟩
theorem ok_law {K : Fr} {mg : Str → Option Value} (t : Tp theLaw K mg) {base : Heap} {w : World} : ∀ d, (∀ d', d = d' + 1 → theLaw.All K mg base w d') → FnOk theLaw.pw w K mg base CX0 (2 * d + 1) (a_law K) (fdAt K (a_law K)) ["script"] (spD (theLaw.Z w K) WW d 40 1) :=
  def_ok (mfd := f_law) (fd_law t) sc_law rfl rfl (by decide) fun d _ _ _ _ _ _ _ ih hr hx =>
    ss_cons (s_for hx PassesOwn.never (i_range1 (by rfl) (t.free 25) (b_max2 hx (by rfl) (t.free 24) k_int (b_min2 hx (by rfl) (t.free 23) k_int (b_len hx (by rfl) (t.free 18) (s_var (pv 0)))))) (g_name (pg_name (i := 1) hx.nd rfl (by first | exact Or.inl rfl | exact Or.inr rfl)))
    (ss_cons (st_set (i := 2) hx rfl (by first | exact Or.inl rfl | exact Or.inr rfl) (s_call noAX rfl rfl rfl (parId 2) (ih _ rfl 35 _ rfl) (hr.mono (by omega)) (by rfl) (t.glo 10) (fd__law_tape t).kp (b__law_tape t) .nil (es_cons (s_var (pv 0)) (es_cons (s_var (pv 1)) es_nil))) (by first | exact .inl rfl | exact .inr rfl))
    (ss_cons (st_ite (PW.pt (t_or (t_not (t_val hx (s_call noAX rfl rfl rfl (parId 1) (ih _ rfl 37 _ rfl) (hr.mono (by omega)) (by rfl) (t.glo 12) (fd__law_row_right t).kp (b__law_row_right t) .nil (es_cons (s_add hx k_int (s_call noAX rfl rfl rfl (parId 2) (ih _ rfl 36 _ rfl) (hr.mono (by omega)) (by rfl) (t.glo 11) (fd__law_pick t).kp (b__law_pick t) .nil (es_cons (s_var (pv 2)) (es_cons k_int es_nil)))) es_nil)))) (t_or (t_not (t_val hx (s_call noAX rfl rfl rfl (parId 1) (ih _ rfl 38 _ rfl) (hr.mono (by omega)) (by rfl) (t.glo 13) (fd__law_ring_right t).kp (b__law_ring_right t) .nil (es_cons (s_add hx k_int (s_call noAX rfl rfl rfl (parId 2) (ih _ rfl 36 _ rfl) (hr.mono (by omega)) (by rfl) (t.glo 11) (fd__law_pick t).kp (b__law_pick t) .nil (es_cons (s_var (pv 2)) (es_cons k_int es_nil)))) es_nil)))) (t_or1 (t_not (t_val hx (s_call noAX rfl rfl rfl (parId 1) (ih _ rfl 39 _ rfl) (hr.mono (by omega)) (by rfl) (t.glo 14) (fd__law_replayed_right t).kp (b__law_replayed_right t) .nil (es_cons (s_add hx k_int (s_call noAX rfl rfl rfl (parId 2) (ih _ rfl 36 _ rfl) (hr.mono (by omega)) (by rfl) (t.glo 11) (fd__law_pick t).kp (b__law_pick t) .nil (es_cons (s_var (pv 2)) (es_cons k_int es_nil)))) es_nil))))))))
    (ss_cons (st_ret k_bl)
    ss_nil)
    ss_nil)
    ss_nil)))
    (ss_cons (st_set (i := 3) hx rfl (by first | exact Or.inl rfl | exact Or.inr rfl) (s_make (Z := theLaw.Z w K) (c := 3) (x := "Field") noAX rfl rfl rfl rfl rfl (parId 1) (t.mkr 53) (ih _ rfl 19 _ rfl) (hr.mono (by omega)) (by rfl) (t.glo 8) (b_Field___init__ t) .nil (es_cons ((b_Web___init__ t).elim fun _ hb => s_make (Z := theLaw.Z w K) (c := 2) (x := "Web") noAX rfl rfl rfl rfl rfl (pd_Web___init__ t) (t.mkr 43) (ih _ rfl 12 _ rfl) (hr.mono (by omega)) (by rfl) (t.glo 7) hb.2 hb.1 (es_cons (s_make (Z := theLaw.Z w K) (c := 1) (x := "Stretch") noAX rfl rfl rfl rfl rfl (parId 2) (t.mkr 38) (ih _ rfl 9 _ rfl) (hr.mono (by omega)) (by rfl) (t.glo 6) (b_Stretch___init__ t) .nil (es_cons ((b_Frame___init__ t).elim fun _ hb => s_make (Z := theLaw.Z w K) (c := 0) (x := "Frame") noAX rfl rfl rfl rfl rfl (pd_Frame___init__ t) (t.mkr 30) (ih _ rfl 3 _ rfl) (hr.mono (by omega)) (by rfl) (t.glo 3) hb.2 hb.1 (es_cons k_int es_nil)) (es_cons (s_fz (l_disp (es_cons (s_tup (es_cons (s_tup (es_cons k_int (es_cons k_bl es_nil)) hx) (es_cons (s_tup (es_cons k_int (es_cons k_bl es_nil)) hx) es_nil)) hx) (es_cons (s_tup (es_cons (s_tup (es_cons k_int (es_cons k_bl es_nil)) hx) (es_cons (s_tup (es_cons k_int (es_cons k_bl es_nil)) hx) es_nil)) hx) es_nil)))) es_nil))) es_nil)) es_nil)) (by first | exact .inl rfl | exact .inr rfl))
    (ss_cons (st_ret (s_cmp (oc_eq hx) (s_fz (l_disp (es_cons (s_prop hx (po_Field_inside t) noAX rfl rfl rfl (ih _ rfl 21 _ rfl) (hr.mono (by omega)) (b_Field_inside t) (s_var (pv 3))) (es_cons (s_meth0 hx (mo_Field_can_join t) noAX rfl rfl rfl (parId 0) (ih _ rfl 23 _ rfl) (hr.mono (by omega)) (b_Field_can_join t) .nil (s_var (pv 3))) (es_cons (s_meth0 hx (mo_Field_never t) noAX rfl rfl rfl (parId 0) (ih _ rfl 33 _ rfl) (hr.mono (by omega)) (b_Field_never t) .nil (s_var (pv 3))) (es_cons (s_meth0 hx (mo_Field_step t) noAX rfl rfl rfl (parId 0) (ih _ rfl 26 _ rfl) (hr.mono (by omega)) (b_Field_step t) .nil (s_var (pv 3))) es_nil)))))) (s_fz (l_disp (es_cons (s_fz (l_disp (es_cons (s_tup (es_cons k_int (es_cons k_int es_nil)) hx) es_nil))) (es_cons (s_fz (l_disp (es_cons (s_tup (es_cons k_int (es_cons k_int es_nil)) hx) es_nil))) (es_cons (s_fz (l_disp (es_cons (s_tup (es_cons k_int (es_cons k_int es_nil)) hx) (es_cons (s_tup (es_cons k_int (es_cons k_int es_nil)) hx) es_nil)))) (es_cons (s_fz (l_disp (es_cons (s_tup (es_cons k_int (es_cons k_int es_nil)) hx) es_nil))) es_nil))))))))
    ss_nil))
theorem all_ok {K : Fr} {mg : Str → Option Value} (t : Tp theLaw K mg) {base : Heap} {w : World} : ∀ d, theLaw.All K mg base w d := all_of fun d ih i e h => by
  match i, h with
  | 0, h => cases h; exact ok_is_whole t d ih
  | 1, h => cases h; exact ok_is_pair t d ih
  | 2, h => cases h; exact ok_are_pairs t d ih
  | 3, h => cases h; exact ok_Frame___init__ t d ih
  | 4, h => cases h; exact ok_Frame_beside t d ih
  | 5, h => cases h; exact ok_Frame_onward t d ih
  | 6, h => cases h; exact ok_Frame_back t d ih
  | 7, h => cases h; exact ok_is_cell t d ih
  | 8, h => cases h; exact ok_is_column t d ih
  | 9, h => cases h; exact ok_Stretch___init__ t d ih
  | 10, h => cases h; exact ok_Stretch_columns t d ih
  | 11, h => cases h; exact ok_Stretch___len__ t d ih
  | 12, h => cases h; exact ok_Web___init__ t d ih
  | 13, h => cases h; exact ok_Web_seats t d ih
  | 14, h => cases h; exact ok_Web_is_seat t d ih
  | 15, h => cases h; exact ok_Web_must_have t d ih
  | 16, h => cases h; exact ok_Web_cell t d ih
  | 17, h => cases h; exact ok_Web_neighbours t d ih
  | 18, h => cases h; exact ok_Web_changed t d ih
  | 19, h => cases h; exact ok_Field___init__ t d ih
  | 20, h => cases h; exact ok_Field_web t d ih
  | 21, h => cases h; exact ok_Field_inside t d ih
  | 22, h => cases h; exact ok_Field_history t d ih
  | 23, h => cases h; exact ok_Field_can_join t d ih
  | 24, h => cases h; exact ok_Field_note t d ih
  | 25, h => cases h; exact ok_Field_enter t d ih
  | 26, h => cases h; exact ok_Field_step t d ih
  | 27, h => cases h; exact ok_Field_put t d ih
  | 28, h => cases h; exact ok_Field_leave t d ih
  | 29, h => cases h; exact ok_Field_set_need t d ih
  | 30, h => cases h; exact ok_Field_undo t d ih
  | 31, h => cases h; exact ok_Field_fork t d ih
  | 32, h => cases h; exact ok_Field_outcome t d ih
  | 33, h => cases h; exact ok_Field_never t d ih
  | 34, h => cases h; exact ok_replayed t d ih
  | 35, h => cases h; exact ok__law_tape t d ih
  | 36, h => cases h; exact ok__law_pick t d ih
  | 37, h => cases h; exact ok__law_row_right t d ih
  | 38, h => cases h; exact ok__law_ring_right t d ih
  | 39, h => cases h; exact ok__law_replayed_right t d ih
  | 40, h => cases h; exact ok_law t d ih
  | _n + 41, h => cases h
end K79
end Mini
end
section
set_option linter.all false
set_option maxRecDepth 100000
set_option maxHeartbeats 2000000
set_option autoImplicit false
/-! Mini by combinators: quicker for the kernel. -/
namespace Mini
abbrev DE := Ctx → List MV → Layer → Res (MV)
abbrev DOe := Ctx → List MV → Layer → Res (Option Int)
abbrev DEs := Ctx → List MV → Layer → Res (List MV)
abbrev DQ := Ctx → List MV → Layer → Res (Bool)
abbrev DL := Ctx → List MV → Layer → Res (LD)
abbrev DKVs := Ctx → List MV → Layer → Res (List (MV × MV))
abbrev DIt := Ctx → List MV → Layer → Res (Itd)
abbrev DTg := Ctx → MV → List MV → Layer → Res (List MV)
abbrev DTgs := Ctx → List MV → List MV → Layer → Res (List MV)
abbrev DS := Ctx → List MV → Layer → Res (Fl × List MV)
abbrev DSs := Ctx → List MV → Layer → Res (Fl × List MV)
def E.den (e : E) : DE := fun C δ T => ev C e δ T
def Oe.den (e : Oe) : DOe := fun C δ T => evO C e δ T
def Es.den (e : Es) : DEs := fun C δ T => evs C e δ T
def Es.denQ (e : Es) : DQ := fun C δ T => evTests C e δ T
def L.den (e : L) : DL := fun C δ T => evL C e δ T
def KVs.den (e : KVs) : DKVs := fun C δ T => evKV C e δ T
def It.den (e : It) : DIt := fun C δ T => evIt C e δ T
def Tg.den (e : Tg) : DTg := fun C x δ T => asg C e x δ T
def Tgs.den (e : Tgs) : DTgs := fun C x δ T => asgs C e x δ T
def S.den (e : S) : DS := fun C δ T => exec C e δ T
def Ss.den (e : Ss) : DSs := fun C δ T => execs C e δ T
def cE_const (v : MV) : DE := fun C _ T => .ok v T
theorem deE_const (v : MV) : (E.const v).den = cE_const v := by
  funext C δ T
  simp only [E.den, cE_const, ev]
  all_goals first | rfl | (congr 1; done) | skip
def cE_var (i : Nat) : DE := fun C δ T => match δ[i]? with
    | some .undef => .stuck
    | some v => .ok v T
    | none => .stuck
theorem deE_var (i : Nat) : (E.var i).den = cE_var i := by
  funext C δ T
  simp only [E.den, cE_var, ev]
  all_goals first | rfl | (congr 1; done) | skip
def cE_tup (es : DEs) : DE := fun C δ T => (es C δ T).bind fun vs T1 => if vs.length ≤ big then .ok (.tup vs) T1 else .stuck
theorem deE_tup (es : Es) : (E.tup es).den = cE_tup es.den := by
  funext C δ T
  simp only [E.den, cE_tup, ev]
  all_goals first | rfl | (congr 1; done) | skip
def cE_fz (l : DL) : DE := fun C δ T => (l C δ T).bind fun d T1 => .ok d.mv T1
theorem deE_fz (l : L) : (E.fz l).den = cE_fz l.den := by
  funext C δ T
  simp only [E.den, cE_fz, ev]
  all_goals first | rfl | (congr 1; done) | skip
def cE_cell (l : DL) : DE := fun C δ T => (l C δ T).bind fun d T1 => .ok (.ref C.B.length T1.length) (T1 ++ [d.cell])
theorem deE_cell (l : L) : (E.cell l).den = cE_cell l.den := by
  funext C δ T
  simp only [E.den, cE_cell, ev]
  all_goals first | rfl | (congr 1; done) | skip
def cE_bin (op : Op2) (a : DE) (b : DE) : DE := fun C δ T => (a C δ T).bind fun x T1 => (b C δ T1).bind fun y T2 => optR (bin C T2 op x y) T2
theorem deE_bin (op : Op2) (a : E) (b : E) : (E.bin op a b).den = cE_bin op a.den b.den := by
  funext C δ T
  simp only [E.den, cE_bin, ev]
  all_goals first | rfl | (congr 1; done) | skip
def cE_neg (a : DE) : DE := fun C δ T => (a C δ T).bind fun x T1 => match x with
    | .int i => .ok (.int (-i)) T1
    | _ => .stuck
theorem deE_neg (a : E) : (E.neg a).den = cE_neg a.den := by
  funext C δ T
  simp only [E.den, cE_neg, ev]
  all_goals first | rfl | (congr 1; done) | skip
def cE_not_ (a : DE) : DE := fun C δ T => (a C δ T).bind fun x T1 => (optR (truthy C T1 x) T1).bind fun b T2 => .ok (.bl (!b)) T2
theorem deE_not_ (a : E) : (E.not a).den = cE_not_ a.den := by
  funext C δ T
  simp only [E.den, cE_not_, ev]
  all_goals first | rfl | (congr 1; done) | skip
def cE_and_ (a : DE) (b : DE) : DE := fun C δ T => (a C δ T).bind fun x T1 => (optR (truthy C T1 x) T1).bind fun c T2 => if c then b C δ T2 else .ok x T2
theorem deE_and_ (a : E) (b : E) : (E.and a b).den = cE_and_ a.den b.den := by
  funext C δ T
  simp only [E.den, cE_and_, ev]
  all_goals first | rfl | (congr 1; done) | skip
def cE_or_ (a : DE) (b : DE) : DE := fun C δ T => (a C δ T).bind fun x T1 => (optR (truthy C T1 x) T1).bind fun c T2 => if c then .ok x T2 else b C δ T2
theorem deE_or_ (a : E) (b : E) : (E.or a b).den = cE_or_ a.den b.den := by
  funext C δ T
  simp only [E.den, cE_or_, ev]
  all_goals first | rfl | (congr 1; done) | skip
def cE_cmp (op : CmpO) (a : DE) (b : DE) : DE := fun C δ T => (a C δ T).bind fun x T1 => (b C δ T1).bind fun y T2 => (optR (cmpM C T2 op x y) T2).bind fun r T3 => .ok (.bl r) T3
theorem deE_cmp (op : CmpO) (a : E) (b : E) : (E.cmp op a b).den = cE_cmp op a.den b.den := by
  funext C δ T
  simp only [E.den, cE_cmp, ev]
  all_goals first | rfl | (congr 1; done) | skip
def cE_chain (op : CmpO) (op' : CmpO) (a : DE) (b : DE) (c : DE) : DE := fun C δ T => (a C δ T).bind fun x T1 => (b C δ T1).bind fun y T2 => (optR (cmpM C T2 op x y) T2).bind fun r T3 =>
      if r then (c C δ T3).bind fun z T4 => (optR (cmpM C T4 op' y z) T4).bind fun r' T5 => .ok (.bl r') T5 else .ok (.bl false) T3
theorem deE_chain (op : CmpO) (op' : CmpO) (a : E) (b : E) (c : E) : (E.chain op op' a b c).den = cE_chain op op' a.den b.den c.den := by
  funext C δ T
  simp only [E.den, cE_chain, ev]
  all_goals first | rfl | (congr 1; done) | skip
def cE_ite (c : DE) (a : DE) (b : DE) : DE := fun C δ T => (c C δ T).bind fun x T1 => (optR (truthy C T1 x) T1).bind fun t T2 => if t then a C δ T2 else b C δ T2
theorem deE_ite (c : E) (a : E) (b : E) : (E.ite c a b).den = cE_ite c.den a.den b.den := by
  funext C δ T
  simp only [E.den, cE_ite, ev]
  all_goals first | rfl | (congr 1; done) | skip
def cE_fld (kp : Bool) (a : DE) (f : Nat) : DE := fun C δ T => (a C δ T).bind fun x T1 => match insOf C T1 x with
    | some (c, fs) => match C.P.cls[c]? with
      | some cd => match cd.props.lookup f with
        | some g => C.call kp g [x] C.B T1
        | none => match cd.flds.idxOf? f with
          | some j => match fs[j]? with
            | some .undef => .stuck
            | some v => .ok v T1
            | none => .stuck
          | none => .stuck
      | none => .stuck
    | none => .stuck
theorem deE_fld (kp : Bool) (a : E) (f : Nat) : (E.fld kp a f).den = cE_fld kp a.den f := by
  funext C δ T
  simp only [E.den, cE_fld, ev]
  all_goals first | rfl | (congr 1; done) | skip
def cE_idx (a : DE) (i : DE) : DE := fun C δ T => (a C δ T).bind fun x T1 => (i C δ T1).bind fun y T2 => optR (idxM C T2 x y) T2
theorem deE_idx (a : E) (i : E) : (E.idx a i).den = cE_idx a.den i.den := by
  funext C δ T
  simp only [E.den, cE_idx, ev]
  all_goals first | rfl | (congr 1; done) | skip
def cE_sli (a : DE) (lo : DOe) (hi : DOe) : DE := fun C δ T => (a C δ T).bind fun x T1 => (lo C δ T1).bind fun p T2 => (hi C δ T2).bind fun q T3 => optR (sliM C T3 x p q) T3
theorem deE_sli (a : E) (lo : Oe) (hi : Oe) : (E.sli a lo hi).den = cE_sli a.den lo.den hi.den := by
  funext C δ T
  simp only [E.den, cE_sli, ev]
  all_goals first | rfl | (congr 1; done) | skip
def cE_call (k : Bool) (f : Nat) (am : List AM) (es : DEs) : DE := fun C δ T => (es C δ T).bind fun vs T1 => C.call k f (params am vs) C.B T1
theorem deE_call (k : Bool) (f : Nat) (am : List AM) (es : Es) : (E.call k f am es).den = cE_call k f am es.den := by
  funext C δ T
  simp only [E.den, cE_call, ev]
  all_goals first | rfl | (congr 1; done) | skip
def cE_meth (k : Bool) (o : DE) (m : Nat) (am : List AM) (es : DEs) : DE := fun C δ T => (o C δ T).bind fun x T1 => match insOf C T1 x with
    | some (c, _) => match C.P.cls[c]? with
      | some cd => match cd.meths.lookup m with
        | some g => (es C δ T1).bind fun vs T2 => C.call k g (x :: params am vs) C.B T2
        | none => .stuck
      | none => .stuck
    | none => .stuck
theorem deE_meth (k : Bool) (o : E) (m : Nat) (am : List AM) (es : Es) : (E.meth k o m am es).den = cE_meth k o.den m am es.den := by
  funext C δ T
  simp only [E.den, cE_meth, ev]
  all_goals first | rfl | (congr 1; done) | skip
def cE_own (m : Nat) (es : DEs) : DE := fun C δ T => (es C δ T).bind fun vs T1 => match vs with
    | [] => .stuck
    | x :: _ => match insOf C T1 x with
      | some (c, _) => match C.P.cls[c]? with
        | some cd => match cd.meths.lookup m with
          | some g => (C.call false g vs C.B T1).bind fun v T2 => if vs.length = 1 then match v with
              | .int i => if 0 ≤ i ∧ i < 1000000000 then .ok v T2 else .stuck
              | _ => .stuck
            else .ok v T2
          | none => .stuck
        | none => .stuck
      | none => .stuck
theorem deE_own (m : Nat) (es : Es) : (E.own m es).den = cE_own m es.den := by
  funext C δ T
  simp only [E.den, cE_own, ev]
  all_goals first | rfl | (congr 1; done) | skip
def cE_blt (b : Blt) (es : DEs) : DE := fun C δ T => (es C δ T).bind fun vs T1 => optR (bltM C T1 b vs) T1
theorem deE_blt (b : Blt) (es : Es) : (E.blt b es).den = cE_blt b es.den := by
  funext C δ T
  simp only [E.den, cE_blt, ev]
  all_goals first | rfl | (congr 1; done) | skip
def cE_bm (o : DE) (m : BM) (es : DEs) : DE := fun C δ T => (o C δ T).bind fun x T1 => if bmOk C T1 x m then (es C δ T1).bind fun vs T2 => match bmM C T2 x m vs with
    | some (v, T3) => .ok v T3
    | none => .stuck else .stuck
theorem deE_bm (o : E) (m : BM) (es : Es) : (E.bm o m es).den = cE_bm o.den m es.den := by
  funext C δ T
  simp only [E.den, cE_bm, ev]
  all_goals first | rfl | (congr 1; done) | skip
def cE_isi (a : DE) (ts : List BTy) (cs : List Nat) : DE := fun C δ T => (a C δ T).bind fun x T1 => (optR (isiM C T1 x ts cs) T1).bind fun b T2 => .ok (.bl b) T2
theorem deE_isi (a : E) (ts : List BTy) (cs : List Nat) : (E.isi a ts cs).den = cE_isi a.den ts cs := by
  funext C δ T
  simp only [E.den, cE_isi, ev]
  all_goals first | rfl | (congr 1; done) | skip
def cE_fstr (es : DEs) : DE := fun C δ T => (es C δ T).bind fun vs T1 => (optR (fstrM vs) T1).bind fun s T2 => if s.length ≤ big then .ok (.str s) T2 else .stuck
theorem deE_fstr (es : Es) : (E.fstr es).den = cE_fstr es.den := by
  funext C δ T
  simp only [E.den, cE_fstr, ev]
  all_goals first | rfl | (congr 1; done) | skip
def cOe_none : DOe := fun C _ T => .ok none T
theorem deOe_none  : Oe.den Oe.none = cOe_none := by
  funext C δ T
  simp only [Oe.den, cOe_none, evO]
  all_goals first | rfl | (congr 1; done) | skip
def cOe_some (e : DE) : DOe := fun C δ T => (e C δ T).bind fun x T1 => match x with
    | .int i => .ok (some i) T1
    | .non => .ok none T1
    | _ => .stuck
theorem deOe_some (e : E) : (Oe.some e).den = cOe_some e.den := by
  funext C δ T
  simp only [Oe.den, cOe_some, evO]
  all_goals first | rfl | (congr 1; done) | skip
def cEs_nil : DEs := fun C _ T => .ok [] T
theorem deEs_nil  : Es.den Es.nil = cEs_nil := by
  funext C δ T
  simp only [Es.den, cEs_nil, evs]
  all_goals first | rfl | (congr 1; done) | skip
def cEs_cons (e : DE) (es : DEs) : DEs := fun C δ T => (e C δ T).bind fun x T1 => (es C δ T1).bind fun xs T2 => .ok (x :: xs) T2
theorem deEs_cons (e : E) (es : Es) : (Es.cons e es).den = cEs_cons e.den es.den := by
  funext C δ T
  simp only [Es.den, cEs_cons, evs]
  all_goals first | rfl | (congr 1; done) | skip
def cQ_nil : DQ := fun C _ T => .ok true T
theorem deQ_nil  : Es.denQ Es.nil = cQ_nil := by
  funext C δ T
  simp only [Es.denQ, cQ_nil, evTests]
  all_goals first | rfl | (congr 1; done) | skip
def cQ_cons (e : DE) (es : DQ) : DQ := fun C δ T => (e C δ T).bind fun x T1 => (optR (truthy C T1 x) T1).bind fun b T2 => if b then es C δ T2 else .ok false T2
theorem deQ_cons (e : E) (es : Es) : (Es.cons e es).denQ = cQ_cons e.den es.denQ := by
  funext C δ T
  simp only [Es.denQ, cQ_cons, evTests]
  all_goals first | rfl | (congr 1; done) | skip
def cL_disp (es : DEs) : DL := fun C δ T => (es C δ T).bind fun vs T1 => if vs.length ≤ big then .ok (.lst vs) T1 else .stuck
theorem deL_disp (es : Es) : (L.disp es).den = cL_disp es.den := by
  funext C δ T
  simp only [L.den, cL_disp, evL]
  all_goals first | rfl | (congr 1; done) | skip
def cL_cat (a : DE) (b : DE) : DL := fun C δ T => (a C δ T).bind fun x T1 => (b C δ T1).bind fun y T2 => match lstOf C T2 x, lstOf C T2 y with
    | some xs, some ys => if xs.length + ys.length ≤ big then .ok (.lst (xs ++ ys)) T2 else .stuck
    | _, _ => .stuck
theorem deL_cat (a : E) (b : E) : (L.cat a b).den = cL_cat a.den b.den := by
  funext C δ T
  simp only [L.den, cL_cat, evL]
  all_goals first | rfl | (congr 1; done) | skip
def cL_rep (a : DE) (b : DE) : DL := fun C δ T => (a C δ T).bind fun x T1 => (b C δ T1).bind fun y T2 => match lstOf C T2 x, y with
    | some xs, .int j => if xs.length * j.toNat ≤ big ∧ j < 1000000 ∧ -1000000 < j then .ok (.lst (List.flatten (List.replicate j.toNat xs))) T2 else .stuck
    | _, _ => .stuck
theorem deL_rep (a : E) (b : E) : (L.rep a b).den = cL_rep a.den b.den := by
  funext C δ T
  simp only [L.den, cL_rep, evL]
  all_goals first | rfl | (congr 1; done) | skip
def cL_list (e : DE) : DL := fun C δ T => (e C δ T).bind fun x T1 => match seqOf C T1 x with
    | some xs => .ok (.lst xs) T1
    | none => match dctOf C T1 x with
      | some (ks, _) => if keysIt ks then .ok (.lst ks) T1 else .stuck
      | none => .stuck
theorem deL_list (e : E) : (L.list e).den = cL_list e.den := by
  funext C δ T
  simp only [L.den, cL_list, evL]
  all_goals first | rfl | (congr 1; done) | skip
def cL_sorted (e : DE) : DL := fun C δ T => (e C δ T).bind fun x T1 => match seqOf C T1 x with
    | some xs => if xs.length ≤ big ∧ (MV.lst xs).data ∧ allAlike xs ∧ srtOk xs then .ok (.lst (isort xs)) T1 else .stuck
    | none => .stuck
theorem deL_sorted (e : E) : (L.sorted e).den = cL_sorted e.den := by
  funext C δ T
  simp only [L.den, cL_sorted, evL]
  all_goals first | rfl | (congr 1; done) | skip
def cL_sli (a : DE) (lo : DOe) (hi : DOe) : DL := fun C δ T => (a C δ T).bind fun x T1 => (lo C δ T1).bind fun p T2 => (hi C δ T2).bind fun q T3 => match lstOf C T3 x with
    | some xs => .ok (.lst (slice xs p q)) T3
    | none => .stuck
theorem deL_sli (a : E) (lo : Oe) (hi : Oe) : (L.sli a lo hi).den = cL_sli a.den lo.den hi.den := by
  funext C δ T
  simp only [L.den, cL_sli, evL]
  all_goals first | rfl | (congr 1; done) | skip
def cL_comp (own : List Nat) (t : DTg) (it : DIt) (cs : DQ) (e : DE) : DL := fun C δ T => (it C δ T).bind fun d T1 =>
      (calm (lockR d.lock (compF C d.src (fun x T => calm ((t C x (wipe δ own) T).bind fun δ1 T1 => (cs C δ1 T1).bind fun b T2 => if b then (e C δ1 T2).bind fun y T3 => .ok [y] T3 else .ok [] T2)) d.items) T1)).bind fun ys T2 =>
      if ys.length < big then .ok (.lst ys) T2 else .stuck
theorem deL_comp (own : List Nat) (t : Tg) (it : It) (cs : Es) (e : E) : (L.comp own t it cs e).den = cL_comp own t.den it.den cs.denQ e.den := by
  funext C δ T
  simp only [L.den, cL_comp, evL]
  all_goals first | rfl | (congr 1; done) | skip
def cL_comp2 (own : List Nat) (own2 : List Nat) (t : DTg) (it : DIt) (cs : DQ) (t2 : DTg) (it2 : DIt) (cs2 : DQ) (e : DE) : DL := fun C δ T => (it C δ T).bind fun d T1 =>
      (calm (lockR d.lock (compF C d.src (fun x T => calm ((t C x (wipe δ own) T).bind fun δ1 T1 => (cs C δ1 T1).bind fun b T2 =>
        if b then (it2 C δ1 T2).bind fun d2 T3 => lockR d2.lock (compF C d2.src (fun x T => calm ((t2 C x (wipe δ1 own2) T).bind fun δ2 T1 => (cs2 C δ2 T1).bind fun b T2 =>
          if b then (e C δ2 T2).bind fun y T3 => .ok [y] T3 else .ok [] T2)) d2.items) T3
        else .ok [] T2)) d.items) T1)).bind fun ys T2 =>
      if ys.length < big then .ok (.lst ys) T2 else .stuck
theorem deL_comp2 (own : List Nat) (own2 : List Nat) (t : Tg) (it : It) (cs : Es) (t2 : Tg) (it2 : It) (cs2 : Es) (e : E) : (L.comp2 own own2 t it cs t2 it2 cs2 e).den = cL_comp2 own own2 t.den it.den cs.denQ t2.den it2.den cs2.denQ e.den := by
  funext C δ T
  simp only [L.den, cL_comp2, evL]
  all_goals first | rfl | (congr 1; done) | skip
def cL_ddisp (ps : DKVs) : DL := fun C δ T => (ps C δ T).bind fun ps T1 => match mkD ps [] [] with
    | some (ks, vs) => .ok (.dct ks vs) T1
    | none => .stuck
theorem deL_ddisp (ps : KVs) : (L.ddisp ps).den = cL_ddisp ps.den := by
  funext C δ T
  simp only [L.den, cL_ddisp, evL]
  all_goals first | rfl | (congr 1; done) | skip
def cL_dcomp (own : List Nat) (t : DTg) (it : DIt) (cs : DQ) (k : DE) (v : DE) : DL := fun C δ T => (it C δ T).bind fun d T1 =>
      (calm (lockR d.lock (compF C d.src (fun x T => calm ((t C x (wipe δ own) T).bind fun δ1 T1 => (cs C δ1 T1).bind fun b T2 => if b then (k C δ1 T2).bind fun y T3 => (v C δ1 T3).bind fun z T4 => .ok [(y, z)] T4 else .ok [] T2)) d.items) T1)).bind fun ps T2 =>
      match mkD ps [] [] with
      | some (ks, vs) => if ks.length < big then .ok (.dct ks vs) T2 else .stuck
      | none => .stuck
theorem deL_dcomp (own : List Nat) (t : Tg) (it : It) (cs : Es) (k : E) (v : E) : (L.dcomp own t it cs k v).den = cL_dcomp own t.den it.den cs.denQ k.den v.den := by
  funext C δ T
  simp only [L.den, cL_dcomp, evL]
  all_goals first | rfl | (congr 1; done) | skip
def cL_dcomp2 (own : List Nat) (own2 : List Nat) (t : DTg) (it : DIt) (cs : DQ) (t2 : DTg) (it2 : DIt) (cs2 : DQ) (k : DE) (v : DE) : DL := fun C δ T => (it C δ T).bind fun d T1 =>
      (calm (lockR d.lock (compF C d.src (fun x T => calm ((t C x (wipe δ own) T).bind fun δ1 T1 => (cs C δ1 T1).bind fun b T2 =>
        if b then (it2 C δ1 T2).bind fun d2 T3 => lockR d2.lock (compF C d2.src (fun x T => calm ((t2 C x (wipe δ1 own2) T).bind fun δ2 T1 => (cs2 C δ2 T1).bind fun b T2 =>
          if b then (k C δ2 T2).bind fun y T3 => (v C δ2 T3).bind fun z T4 => .ok [(y, z)] T4 else .ok [] T2)) d2.items) T3
        else .ok [] T2)) d.items) T1)).bind fun ps T2 =>
      match mkD ps [] [] with
      | some (ks, vs) => if ks.length < big then .ok (.dct ks vs) T2 else .stuck
      | none => .stuck
theorem deL_dcomp2 (own : List Nat) (own2 : List Nat) (t : Tg) (it : It) (cs : Es) (t2 : Tg) (it2 : It) (cs2 : Es) (k : E) (v : E) : (L.dcomp2 own own2 t it cs t2 it2 cs2 k v).den = cL_dcomp2 own own2 t.den it.den cs.denQ t2.den it2.den cs2.denQ k.den v.den := by
  funext C δ T
  simp only [L.den, cL_dcomp2, evL]
  all_goals first | rfl | (congr 1; done) | skip
def cL_dict (e : DE) : DL := fun C δ T => (e C δ T).bind fun x T1 => match dctOf C T1 x with
    | some (ks, vs) => .ok (.dct ks vs) T1
    | none => match lstOf C T1 x with
      | some xs => match pairsOf xs with
        | some ps => match mkD ps [] [] with
          | some (ks, vs) => .ok (.dct ks vs) T1
          | none => .stuck
        | none => .stuck
      | none => .stuck
theorem deL_dict (e : E) : (L.dict e).den = cL_dict e.den := by
  funext C δ T
  simp only [L.den, cL_dict, evL]
  all_goals first | rfl | (congr 1; done) | skip
def cKVs_nil : DKVs := fun C _ T => .ok [] T
theorem deKVs_nil  : KVs.den KVs.nil = cKVs_nil := by
  funext C δ T
  simp only [KVs.den, cKVs_nil, evKV]
  all_goals first | rfl | (congr 1; done) | skip
def cKVs_cons (k : DE) (v : DE) (r : DKVs) : DKVs := fun C δ T => (k C δ T).bind fun x T1 => (v C δ T1).bind fun y T2 => (r C δ T2).bind fun ps T3 => .ok ((x, y) :: ps) T3
theorem deKVs_cons (k : E) (v : E) (r : KVs) : (KVs.cons k v r).den = cKVs_cons k.den v.den r.den := by
  funext C δ T
  simp only [KVs.den, cKVs_cons, evKV]
  all_goals first | rfl | (congr 1; done) | skip
def cIt_seq (e : DE) : DIt := fun C δ T => (e C δ T).bind fun x T1 => match seqOf C T1 x with
    | some xs => .ok ⟨xs, srcOf C T1 x, none⟩ T1
    | none => match dctOf C T1 x with
      | some (ks, _) => if keysIt ks then .ok ⟨ks, [], lockOf C T1 x⟩ T1 else .stuck
      | none => .stuck
theorem deIt_seq (e : E) : (It.seq e).den = cIt_seq e.den := by
  funext C δ T
  simp only [It.den, cIt_seq, evIt]
  all_goals first | rfl | (congr 1; done) | skip
def cIt_range1 (a : DE) : DIt := fun C δ T => (a C δ T).bind fun x T1 => match x with
    | .int i => if i < 1000000000 ∧ -1000000000 < i then .ok ⟨rangeL 0 i.toNat, [], none⟩ T1 else .stuck
    | _ => .stuck
theorem deIt_range1 (a : E) : (It.range1 a).den = cIt_range1 a.den := by
  funext C δ T
  simp only [It.den, cIt_range1, evIt]
  all_goals first | rfl | (congr 1; done) | skip
def cIt_range2 (a : DE) (b : DE) : DIt := fun C δ T => (a C δ T).bind fun x T1 => (b C δ T1).bind fun y T2 => match x, y with
    | .int i, .int j => if i < 1000000000 ∧ -1000000000 < i ∧ j < 1000000000 ∧ -1000000000 < j then .ok ⟨rangeL i (j - i).toNat, [], none⟩ T2 else .stuck
    | _, _ => .stuck
theorem deIt_range2 (a : E) (b : E) : (It.range2 a b).den = cIt_range2 a.den b.den := by
  funext C δ T
  simp only [It.den, cIt_range2, evIt]
  all_goals first | rfl | (congr 1; done) | skip
def cIt_range3 (a : DE) (b : DE) (c : DE) : DIt := fun C δ T => (a C δ T).bind fun x T1 => (b C δ T1).bind fun y T2 => (c C δ T2).bind fun z T3 => match x, y, z with
    | .int i, .int j, .int k => if i < 1000000000 ∧ -1000000000 < i ∧ j < 1000000000 ∧ -1000000000 < j ∧ k < 1000000 ∧ -1000000 < k ∧ k ≠ 0 then .ok ⟨rangeS i k (rangeN i j k), [], none⟩ T3 else .stuck
    | _, _, _ => .stuck
theorem deIt_range3 (a : E) (b : E) (c : E) : (It.range3 a b c).den = cIt_range3 a.den b.den c.den := by
  funext C δ T
  simp only [It.den, cIt_range3, evIt]
  all_goals first | rfl | (congr 1; done) | skip
def cIt_enum (e : DE) : DIt := fun C δ T => (e C δ T).bind fun x T1 => match lstOf C T1 x with
    | some xs => .ok ⟨enumL 0 xs, srcOf C T1 x, none⟩ T1
    | none => .stuck
theorem deIt_enum (e : E) : (It.enum e).den = cIt_enum e.den := by
  funext C δ T
  simp only [It.den, cIt_enum, evIt]
  all_goals first | rfl | (congr 1; done) | skip
def cIt_zip (a : DE) (b : DE) : DIt := fun C δ T => (a C δ T).bind fun x T1 => (b C δ T1).bind fun y T2 => match lstOf C T2 x, lstOf C T2 y with
    | some xs, some ys => .ok ⟨zipL xs ys, srcOf C T2 x ++ srcOf C T2 y, none⟩ T2
    | _, _ => .stuck
theorem deIt_zip (a : E) (b : E) : (It.zip a b).den = cIt_zip a.den b.den := by
  funext C δ T
  simp only [It.den, cIt_zip, evIt]
  all_goals first | rfl | (congr 1; done) | skip
def cIt_items (e : DE) : DIt := fun C δ T => (e C δ T).bind fun x T1 => match dctOf C T1 x with
    | some (ks, vs) => if keysIt ks then .ok ⟨zipL ks vs, [], lockOf C T1 x⟩ T1 else .stuck
    | none => .stuck
theorem deIt_items (e : E) : (It.items e).den = cIt_items e.den := by
  funext C δ T
  simp only [It.den, cIt_items, evIt]
  all_goals first | rfl | (congr 1; done) | skip
def cTg_name (i : Nat) : DTg := fun C v δ T => .ok (δ.set i v) T
theorem deTg_name (i : Nat) : (Tg.name i).den = cTg_name i := by
  funext C x δ T
  simp only [Tg.den, cTg_name, asg]
  all_goals first | rfl | (congr 1; done) | skip
def cTg_tup (n : Nat) (ts : DTgs) : DTg := fun C v δ T => match v with
    | .tup xs => if xs.length = n then ts C xs δ T else .stuck
    | _ => .stuck
theorem deTg_tup (ts : Tgs) : (Tg.tup ts).den = cTg_tup ts.len ts.den := by
  funext C x δ T
  simp only [Tg.den, cTg_tup, asg]
  all_goals first | rfl | (congr 1; done) | skip
def cTg_fld (o : DE) (f : Nat) : DTg := fun C v δ T => (o C δ T).bind fun x T1 => (optR (putFld C T1 x f v) T1).bind fun T2 _ => .ok δ T2
theorem deTg_fld (o : E) (f : Nat) : (Tg.fld o f).den = cTg_fld o.den f := by
  funext C x δ T
  simp only [Tg.den, cTg_fld, asg]
  all_goals first | rfl | (congr 1; done) | skip
def cTg_sub (o : DE) (i : DE) : DTg := fun C v δ T => (o C δ T).bind fun x T1 => (i C δ T1).bind fun y T2 => (optR (putIx C T2 x y v) T2).bind fun T3 _ => .ok δ T3
theorem deTg_sub (o : E) (i : E) : (Tg.sub o i).den = cTg_sub o.den i.den := by
  funext C x δ T
  simp only [Tg.den, cTg_sub, asg]
  all_goals first | rfl | (congr 1; done) | skip
def cS_asg (t : DTg) (e : DE) : DS := fun C δ T => (e C δ T).bind fun x T1 => (t C x δ T1).bind fun δ1 T2 => .ok (.next, δ1) T2
theorem deS_asg (t : Tg) (e : E) : (S.asg t e).den = cS_asg t.den e.den := by
  funext C δ T
  simp only [S.den, cS_asg, exec]
  all_goals first | rfl | (congr 1; done) | skip
def cS_par (is : List Nat) (es : DEs) : DS := fun C δ T => (es C δ T).bind fun vs T1 => if vs.length = is.length then .ok (.next, (is.zip vs).foldl (fun d p => d.set p.1 p.2) δ) T1 else .stuck
theorem deS_par (is : List Nat) (es : Es) : (S.par is es).den = cS_par is es.den := by
  funext C δ T
  simp only [S.den, cS_par, exec]
  all_goals first | rfl | (congr 1; done) | skip
def cS_expr (e : DE) : DS := fun C δ T => (e C δ T).bind fun _ T1 => .ok (.next, δ) T1
theorem deS_expr (e : E) : (S.expr e).den = cS_expr e.den := by
  funext C δ T
  simp only [S.den, cS_expr, exec]
  all_goals first | rfl | (congr 1; done) | skip
def cS_ite (c : DE) (a : DSs) (b : DSs) : DS := fun C δ T => (c C δ T).bind fun x T1 => (optR (truthy C T1 x) T1).bind fun t T2 => if t then a C δ T2 else b C δ T2
theorem deS_ite (c : E) (a : Ss) (b : Ss) : (S.ite c a b).den = cS_ite c.den a.den b.den := by
  funext C δ T
  simp only [S.den, cS_ite, exec]
  all_goals first | rfl | (congr 1; done) | skip
def cS_for_ (t : DTg) (it : DIt) (body : DSs) : DS := fun C δ T => (it C δ T).bind fun d T1 => lockR d.lock (forF C d.src (fun x δ T => (t C x δ T).bind fun δ1 T1 => body C δ1 T1) d.items δ) T1
theorem deS_for_ (t : Tg) (it : It) (body : Ss) : (S.for_ t it body).den = cS_for_ t.den it.den body.den := by
  funext C δ T
  simp only [S.den, cS_for_, exec]
  all_goals first | rfl | (congr 1; done) | skip
def cS_while_ (c : DE) (body : DSs) : DS := fun C δ T => whileF (fun δ T => (c C δ T).bind fun x T1 => optR (truthy C T1 x) T1) (fun δ T => body C δ T) C.W δ T
theorem deS_while_ (c : E) (body : Ss) : (S.while_ c body).den = cS_while_ c.den body.den := by
  funext C δ T
  simp only [S.den, cS_while_, exec]
  all_goals first | rfl | (congr 1; done) | skip
def cS_ret (e : DE) : DS := fun C δ T => (e C δ T).bind fun x T1 => .ok (.ret x, δ) T1
theorem deS_ret (e : E) : (S.ret e).den = cS_ret e.den := by
  funext C δ T
  simp only [S.den, cS_ret, exec]
  all_goals first | rfl | (congr 1; done) | skip
def cS_del_ (o : DE) (i : DE) : DS := fun C δ T => (o C δ T).bind fun x T1 => (i C δ T1).bind fun y T2 => (optR (delIx C T2 x y) T2).bind fun T3 _ => .ok (.next, δ) T3
theorem deS_del_ (o : E) (i : E) : (S.del o i).den = cS_del_ o.den i.den := by
  funext C δ T
  simp only [S.den, cS_del_, exec]
  all_goals first | rfl | (congr 1; done) | skip
def cS_pass_ : DS := fun C δ T => .ok (.next, δ) T
theorem deS_pass_  : S.den S.pass = cS_pass_ := by
  funext C δ T
  simp only [S.den, cS_pass_, exec]
  all_goals first | rfl | (congr 1; done) | skip
def cS_brk : DS := fun C δ T => .ok (.brk, δ) T
theorem deS_brk  : S.den S.brk = cS_brk := by
  funext C δ T
  simp only [S.den, cS_brk, exec]
  all_goals first | rfl | (congr 1; done) | skip
def cS_cnt : DS := fun C δ T => .ok (.cnt, δ) T
theorem deS_cnt  : S.den S.cnt = cS_cnt := by
  funext C δ T
  simp only [S.den, cS_cnt, exec]
  all_goals first | rfl | (congr 1; done) | skip
def cS_never : DS := fun C _ _ => .stuck
theorem deS_never  : S.den S.never = cS_never := by
  funext C δ T
  simp only [S.den, cS_never, exec]
  all_goals first | rfl | (congr 1; done) | skip
def cSs_nil : DSs := fun C δ T => .ok (.next, δ) T
theorem deSs_nil  : Ss.den Ss.nil = cSs_nil := by
  funext C δ T
  simp only [Ss.den, cSs_nil, execs]
  all_goals first | rfl | (congr 1; done) | skip
def cSs_cons (s : DS) (ss : DSs) : DSs := fun C δ T => (s C δ T).bind fun p T1 => match p.1 with
    | .next => ss C p.2 T1
    | f => .ok (f, p.2) T1
theorem deSs_cons (s : S) (ss : Ss) : (Ss.cons s ss).den = cSs_cons s.den ss.den := by
  funext C δ T
  simp only [Ss.den, cSs_cons, execs]
  all_goals first | rfl | (congr 1; done) | skip
def cTgs_nil : DTgs := fun _ xs δ T => match xs with
  | [] => .ok δ T
  | _ => .stuck
def cTgs_cons (t : DTg) (ts : DTgs) : DTgs := fun C xs δ T => match xs with
  | [] => .stuck
  | x :: xs => (t C x δ T).bind fun δ1 T1 => ts C xs δ1 T1
theorem deTgs_nil : Tgs.den Tgs.nil = cTgs_nil := by
  funext C xs δ T
  cases xs <;> simp only [Tgs.den, cTgs_nil, asgs]
theorem deTgs_cons (t : Tg) (ts : Tgs) : (Tgs.cons t ts).den = cTgs_cons t.den ts.den := by
  funext C xs δ T
  cases xs <;> simp only [Tgs.den, Tg.den, cTgs_cons, asgs]
structure FnS where
  slots : Nat
  kind : Kind
  body : DSs
def Fn.sh (f : Fn) : FnS := ⟨f.slots, f.kind, f.body.den⟩
def nth {α : Type} : List α → Nat → Option α
  | [], _ => none
  | x :: _, 0 => some x
  | _ :: xs, n + 1 => nth xs n
theorem nth_eq {α : Type} : ∀ (xs : List α) (n : Nat), nth xs n = xs[n]?
  | [], n => by simp [nth]
  | x :: xs, 0 => by simp [nth]
  | x :: xs, n + 1 => by simp [nth, nth_eq xs n]
def runS (P : Prog) (W : Nat) (call : Bool → Nat → List MV → List Layer → Layer → Res MV) (fd : FnS) (vs : List MV) (B : List Layer) (T : Layer) : Res MV := (fd.body ⟨P, B, W, call⟩ (startF fd.slots vs) T).bind fun p T1 => optR (retOf p.1) T1
def callS (P : Prog) (tb : List FnS) (W : Nat) : Nat → Bool → Nat → List MV → List Layer → Layer → Res MV
  | 0, _, _, _, _, _ => .stuck
  | d + 1, k, f, vs, B, T => match nth tb f with
    | none => .stuck
    | some fd => match fd.kind with
      | .imp => runS P W (callS P tb W d) fd vs B T
      | .initM c n => (runS P W (callS P tb W d) fd (.ref B.length T.length :: vs) B (T ++ [.ins c (List.replicate n .undef)])).bind fun v T1 => match v with
        | .non => .ok (.ref B.length T.length) T1
        | _ => .stuck
      | .pure => outF (B.length + 1) T (runS P W (callS P tb W d) fd vs (B ++ [T]) []) fun v T1 => leaveF k (B ++ [T]) T T1 v
      | .initF c n => outF (B.length + 1) T (runS P W (callS P tb W d) fd (.ref (B.length + 1) 0 :: vs) (B ++ [T]) [.ins c (List.replicate n .undef)]) fun v T1 => match v with
        | .non => match freeze (B.length + 1) T1 (.ref (B.length + 1) 0) with
          | some v => .ok v T
          | none => .stuck
        | _ => .stuck
theorem run_body {P : Prog} {tb : List FnS} (h : P.fns.map Fn.sh = tb) (W : Nat) (call : Bool → Nat → List MV → List Layer → Layer → Res MV) (f : Nat) {fd : FnS} (hf : nth tb f = some fd) (vs : List MV) (B : List Layer) (T : Layer) : bodyRun P W call f vs B T = runS P W call fd vs B T := by
  rw [nth_eq, ← h, List.getElem?_map, Option.map_eq_some_iff] at hf
  obtain ⟨g, h1, h2⟩ := hf
  subst h2
  unfold bodyRun runS
  rw [h1]
  rfl
theorem callS_eq {P : Prog} {tb : List FnS} (h : P.fns.map Fn.sh = tb) (W : Nat) : ∀ d, callN P W d = callS P tb W d
  | 0 => rfl
  | d + 1 => by
    funext k f vs B T
    unfold callN callS
    rw [callS_eq h W d]
    cases e : nth tb f with
    | none =>
      have e' := e
      rw [nth_eq, ← h, List.getElem?_map, Option.map_eq_none_iff] at e'
      rw [e']
    | some fd =>
      have e' := e
      rw [nth_eq, ← h, List.getElem?_map, Option.map_eq_some_iff] at e'
      obtain ⟨g, h1, h2⟩ := e'
      subst h2
      rw [h1]
      try simp only [Fn.sh, run_body h W _ f e]
      try (cases g.kind <;> first | done | rfl)
end Mini
end
section
set_option linter.all false
set_option maxRecDepth 100000
set_option maxHeartbeats 0
namespace Mini
namespace K79
def h_f_is_whole : DSs := (cSs_cons (cS_ret (cE_and_ (cE_isi (cE_var 0) [ .int ] [ ]) (cE_and_ (cE_not_ (cE_isi (cE_var 0) [ .bool ] [ ])) (cE_chain .le .le (cE_var 1) (cE_var 0) (cE_var 2))))) cSs_nil)
theorem he_f_is_whole : f_is_whole.body.den = h_f_is_whole := by
  simp only [f_is_whole, h_f_is_whole, Tgs.len, deE_const, deE_var, deE_tup, deE_fz, deE_cell, deE_bin, deE_neg, deE_not_, deE_and_, deE_or_, deE_cmp, deE_chain, deE_ite, deE_fld, deE_idx, deE_sli, deE_call, deE_meth, deE_own, deE_blt, deE_bm, deE_isi, deE_fstr, deOe_none, deOe_some, deEs_nil, deEs_cons, deQ_nil, deQ_cons, deL_disp, deL_cat, deL_rep, deL_list, deL_sorted, deL_sli, deL_comp, deL_comp2, deL_ddisp, deL_dcomp, deL_dcomp2, deL_dict, deKVs_nil, deKVs_cons, deIt_seq, deIt_range1, deIt_range2, deIt_range3, deIt_enum, deIt_zip, deIt_items, deTg_name, deTg_tup, deTg_fld, deTg_sub, deS_asg, deS_par, deS_expr, deS_ite, deS_for_, deS_while_, deS_ret, deS_del_, deS_pass_, deS_brk, deS_cnt, deS_never, deSs_nil, deSs_cons, deTgs_nil, deTgs_cons]
def g_f_is_whole : FnS := ⟨3, .pure, h_f_is_whole⟩
def h_f_is_pair : DSs := (cSs_cons (cS_ite (cE_or_ (cE_not_ (cE_isi (cE_var 0) [ .tuple ] [ ])) (cE_cmp .ne (cE_blt .len (cEs_cons (cE_var 0) cEs_nil)) (cE_const ( .int 2 )))) (cSs_cons (cS_ret (cE_const ( .bl false ))) cSs_nil) cSs_nil) (cSs_cons (cS_ite (cE_or_ (cE_not_ (cE_call false 0 [ .a 0 , .a 1 , .a 2 ] (cEs_cons (cE_idx (cE_var 0) (cE_const ( .int 0 ))) (cEs_cons (cE_const ( .int 0 )) (cEs_cons (cE_bin .sub (cE_var 1) (cE_const ( .int 1 ))) cEs_nil))))) (cE_not_ (cE_call false 0 [ .a 0 , .a 1 , .a 2 ] (cEs_cons (cE_idx (cE_var 0) (cE_const ( .int 1 ))) (cEs_cons (cE_const ( .int 0 )) (cEs_cons (cE_bin .sub (cE_var 1) (cE_const ( .int 1 ))) cEs_nil)))))) (cSs_cons (cS_ret (cE_const ( .bl false ))) cSs_nil) cSs_nil) (cSs_cons (cS_ret (cE_or_ (cE_not_ (cE_var 2)) (cE_cmp .lt (cE_idx (cE_var 0) (cE_const ( .int 0 ))) (cE_idx (cE_var 0) (cE_const ( .int 1 )))))) cSs_nil)))
theorem he_f_is_pair : f_is_pair.body.den = h_f_is_pair := by
  simp only [f_is_pair, h_f_is_pair, Tgs.len, deE_const, deE_var, deE_tup, deE_fz, deE_cell, deE_bin, deE_neg, deE_not_, deE_and_, deE_or_, deE_cmp, deE_chain, deE_ite, deE_fld, deE_idx, deE_sli, deE_call, deE_meth, deE_own, deE_blt, deE_bm, deE_isi, deE_fstr, deOe_none, deOe_some, deEs_nil, deEs_cons, deQ_nil, deQ_cons, deL_disp, deL_cat, deL_rep, deL_list, deL_sorted, deL_sli, deL_comp, deL_comp2, deL_ddisp, deL_dcomp, deL_dcomp2, deL_dict, deKVs_nil, deKVs_cons, deIt_seq, deIt_range1, deIt_range2, deIt_range3, deIt_enum, deIt_zip, deIt_items, deTg_name, deTg_tup, deTg_fld, deTg_sub, deS_asg, deS_par, deS_expr, deS_ite, deS_for_, deS_while_, deS_ret, deS_del_, deS_pass_, deS_brk, deS_cnt, deS_never, deSs_nil, deSs_cons, deTgs_nil, deTgs_cons]
def g_f_is_pair : FnS := ⟨3, .pure, h_f_is_pair⟩
def h_f_are_pairs : DSs := (cSs_cons (cS_ite (cE_not_ (cE_isi (cE_var 0) [ .list , .tuple ] [ ])) (cSs_cons (cS_ret (cE_const ( .bl false ))) cSs_nil) cSs_nil) (cSs_cons (cS_asg (cTg_name 3) (cE_cell (cL_disp cEs_nil))) (cSs_cons (cS_for_ (cTg_name 4) (cIt_seq (cE_var 0)) (cSs_cons (cS_ite (cE_or_ (cE_not_ (cE_call false 1 [ .a 0 , .a 1 , .a 2 ] (cEs_cons (cE_var 4) (cEs_cons (cE_var 1) (cEs_cons (cE_var 2) cEs_nil))))) (cE_cmp .in_ (cE_var 4) (cE_var 3))) (cSs_cons (cS_ret (cE_const ( .bl false ))) cSs_nil) cSs_nil) (cSs_cons (cS_expr (cE_bm (cE_var 3) .append (cEs_cons (cE_var 4) cEs_nil))) cSs_nil))) (cSs_cons (cS_ret (cE_const ( .bl true ))) cSs_nil))))
theorem he_f_are_pairs : f_are_pairs.body.den = h_f_are_pairs := by
  simp only [f_are_pairs, h_f_are_pairs, Tgs.len, deE_const, deE_var, deE_tup, deE_fz, deE_cell, deE_bin, deE_neg, deE_not_, deE_and_, deE_or_, deE_cmp, deE_chain, deE_ite, deE_fld, deE_idx, deE_sli, deE_call, deE_meth, deE_own, deE_blt, deE_bm, deE_isi, deE_fstr, deOe_none, deOe_some, deEs_nil, deEs_cons, deQ_nil, deQ_cons, deL_disp, deL_cat, deL_rep, deL_list, deL_sorted, deL_sli, deL_comp, deL_comp2, deL_ddisp, deL_dcomp, deL_dcomp2, deL_dict, deKVs_nil, deKVs_cons, deIt_seq, deIt_range1, deIt_range2, deIt_range3, deIt_enum, deIt_zip, deIt_items, deTg_name, deTg_tup, deTg_fld, deTg_sub, deS_asg, deS_par, deS_expr, deS_ite, deS_for_, deS_while_, deS_ret, deS_del_, deS_pass_, deS_brk, deS_cnt, deS_never, deSs_nil, deSs_cons, deTgs_nil, deTgs_cons]
def g_f_are_pairs : FnS := ⟨5, .pure, h_f_are_pairs⟩
def h_f_Frame___init__ : DSs := (cSs_cons (cS_ite (cE_not_ (cE_call false 0 [ .a 0 , .a 1 , .a 2 ] (cEs_cons (cE_var 1) (cEs_cons (cE_const ( .int 1 )) (cEs_cons (cE_const ( .int 3 )) cEs_nil))))) (cSs_cons cS_never cSs_nil) cSs_nil) (cSs_cons (cS_ite (cE_not_ (cE_call false 2 [ .a 0 , .a 1 , .a 2 ] (cEs_cons (cE_var 2) (cEs_cons (cE_var 1) (cEs_cons (cE_const ( .bl true )) cEs_nil))))) (cSs_cons cS_never cSs_nil) cSs_nil) (cSs_cons (cS_ite (cE_not_ (cE_call false 2 [ .a 0 , .a 1 , .a 2 ] (cEs_cons (cE_var 3) (cEs_cons (cE_var 1) (cEs_cons (cE_const ( .bl false )) cEs_nil))))) (cSs_cons cS_never cSs_nil) cSs_nil) (cSs_cons (cS_asg (cTg_fld (cE_var 0) 2) (cE_var 1)) (cSs_cons (cS_asg (cTg_fld (cE_var 0) 1) (cE_blt .tuple1 (cEs_cons (cE_fz (cL_sorted (cE_var 2))) cEs_nil))) (cSs_cons (cS_asg (cTg_fld (cE_var 0) 0) (cE_blt .tuple1 (cEs_cons (cE_fz (cL_sorted (cE_var 3))) cEs_nil))) cSs_nil))))))
theorem he_f_Frame___init__ : f_Frame___init__.body.den = h_f_Frame___init__ := by
  simp only [f_Frame___init__, h_f_Frame___init__, Tgs.len, deE_const, deE_var, deE_tup, deE_fz, deE_cell, deE_bin, deE_neg, deE_not_, deE_and_, deE_or_, deE_cmp, deE_chain, deE_ite, deE_fld, deE_idx, deE_sli, deE_call, deE_meth, deE_own, deE_blt, deE_bm, deE_isi, deE_fstr, deOe_none, deOe_some, deEs_nil, deEs_cons, deQ_nil, deQ_cons, deL_disp, deL_cat, deL_rep, deL_list, deL_sorted, deL_sli, deL_comp, deL_comp2, deL_ddisp, deL_dcomp, deL_dcomp2, deL_dict, deKVs_nil, deKVs_cons, deIt_seq, deIt_range1, deIt_range2, deIt_range3, deIt_enum, deIt_zip, deIt_items, deTg_name, deTg_tup, deTg_fld, deTg_sub, deS_asg, deS_par, deS_expr, deS_ite, deS_for_, deS_while_, deS_ret, deS_del_, deS_pass_, deS_brk, deS_cnt, deS_never, deSs_nil, deSs_cons, deTgs_nil, deTgs_cons]
def g_f_Frame___init__ : FnS := ⟨4, (.initF 0 3), h_f_Frame___init__⟩
def h_f_Frame_beside : DSs := (cSs_cons (cS_ret (cE_blt .tuple1 (cEs_cons (cE_fz (cL_sorted (cE_fz (cL_cat (cE_fz (cL_comp [ 2 , 3 ] (cTg_tup 2 (cTgs_cons (cTg_name 2) (cTgs_cons (cTg_name 3) cTgs_nil))) (cIt_seq (cE_fld false (cE_var 0) 1)) (cQ_cons (cE_cmp .eq (cE_var 2) (cE_var 1)) cQ_nil) (cE_var 3))) (cE_fz (cL_comp [ 2 , 3 ] (cTg_tup 2 (cTgs_cons (cTg_name 2) (cTgs_cons (cTg_name 3) cTgs_nil))) (cIt_seq (cE_fld false (cE_var 0) 1)) (cQ_cons (cE_cmp .eq (cE_var 3) (cE_var 1)) cQ_nil) (cE_var 2))))))) cEs_nil))) cSs_nil)
theorem he_f_Frame_beside : f_Frame_beside.body.den = h_f_Frame_beside := by
  simp only [f_Frame_beside, h_f_Frame_beside, Tgs.len, deE_const, deE_var, deE_tup, deE_fz, deE_cell, deE_bin, deE_neg, deE_not_, deE_and_, deE_or_, deE_cmp, deE_chain, deE_ite, deE_fld, deE_idx, deE_sli, deE_call, deE_meth, deE_own, deE_blt, deE_bm, deE_isi, deE_fstr, deOe_none, deOe_some, deEs_nil, deEs_cons, deQ_nil, deQ_cons, deL_disp, deL_cat, deL_rep, deL_list, deL_sorted, deL_sli, deL_comp, deL_comp2, deL_ddisp, deL_dcomp, deL_dcomp2, deL_dict, deKVs_nil, deKVs_cons, deIt_seq, deIt_range1, deIt_range2, deIt_range3, deIt_enum, deIt_zip, deIt_items, deTg_name, deTg_tup, deTg_fld, deTg_sub, deS_asg, deS_par, deS_expr, deS_ite, deS_for_, deS_while_, deS_ret, deS_del_, deS_pass_, deS_brk, deS_cnt, deS_never, deSs_nil, deSs_cons, deTgs_nil, deTgs_cons]
def g_f_Frame_beside : FnS := ⟨4, .pure, h_f_Frame_beside⟩
def h_f_Frame_onward : DSs := (cSs_cons (cS_ret (cE_blt .tuple1 (cEs_cons (cE_fz (cL_comp [ 2 , 3 ] (cTg_tup 2 (cTgs_cons (cTg_name 2) (cTgs_cons (cTg_name 3) cTgs_nil))) (cIt_seq (cE_fld false (cE_var 0) 0)) (cQ_cons (cE_cmp .eq (cE_var 2) (cE_var 1)) cQ_nil) (cE_var 3))) cEs_nil))) cSs_nil)
theorem he_f_Frame_onward : f_Frame_onward.body.den = h_f_Frame_onward := by
  simp only [f_Frame_onward, h_f_Frame_onward, Tgs.len, deE_const, deE_var, deE_tup, deE_fz, deE_cell, deE_bin, deE_neg, deE_not_, deE_and_, deE_or_, deE_cmp, deE_chain, deE_ite, deE_fld, deE_idx, deE_sli, deE_call, deE_meth, deE_own, deE_blt, deE_bm, deE_isi, deE_fstr, deOe_none, deOe_some, deEs_nil, deEs_cons, deQ_nil, deQ_cons, deL_disp, deL_cat, deL_rep, deL_list, deL_sorted, deL_sli, deL_comp, deL_comp2, deL_ddisp, deL_dcomp, deL_dcomp2, deL_dict, deKVs_nil, deKVs_cons, deIt_seq, deIt_range1, deIt_range2, deIt_range3, deIt_enum, deIt_zip, deIt_items, deTg_name, deTg_tup, deTg_fld, deTg_sub, deS_asg, deS_par, deS_expr, deS_ite, deS_for_, deS_while_, deS_ret, deS_del_, deS_pass_, deS_brk, deS_cnt, deS_never, deSs_nil, deSs_cons, deTgs_nil, deTgs_cons]
def g_f_Frame_onward : FnS := ⟨4, .pure, h_f_Frame_onward⟩
def h_f_Frame_back : DSs := (cSs_cons (cS_ret (cE_blt .tuple1 (cEs_cons (cE_fz (cL_comp [ 2 , 3 ] (cTg_tup 2 (cTgs_cons (cTg_name 2) (cTgs_cons (cTg_name 3) cTgs_nil))) (cIt_seq (cE_fld false (cE_var 0) 0)) (cQ_cons (cE_cmp .eq (cE_var 3) (cE_var 1)) cQ_nil) (cE_var 2))) cEs_nil))) cSs_nil)
theorem he_f_Frame_back : f_Frame_back.body.den = h_f_Frame_back := by
  simp only [f_Frame_back, h_f_Frame_back, Tgs.len, deE_const, deE_var, deE_tup, deE_fz, deE_cell, deE_bin, deE_neg, deE_not_, deE_and_, deE_or_, deE_cmp, deE_chain, deE_ite, deE_fld, deE_idx, deE_sli, deE_call, deE_meth, deE_own, deE_blt, deE_bm, deE_isi, deE_fstr, deOe_none, deOe_some, deEs_nil, deEs_cons, deQ_nil, deQ_cons, deL_disp, deL_cat, deL_rep, deL_list, deL_sorted, deL_sli, deL_comp, deL_comp2, deL_ddisp, deL_dcomp, deL_dcomp2, deL_dict, deKVs_nil, deKVs_cons, deIt_seq, deIt_range1, deIt_range2, deIt_range3, deIt_enum, deIt_zip, deIt_items, deTg_name, deTg_tup, deTg_fld, deTg_sub, deS_asg, deS_par, deS_expr, deS_ite, deS_for_, deS_while_, deS_ret, deS_del_, deS_pass_, deS_brk, deS_cnt, deS_never, deSs_nil, deSs_cons, deTgs_nil, deTgs_cons]
def g_f_Frame_back : FnS := ⟨4, .pure, h_f_Frame_back⟩
def h_f_is_cell : DSs := (cSs_cons (cS_ite (cE_or_ (cE_not_ (cE_isi (cE_var 0) [ .tuple ] [ ])) (cE_cmp .ne (cE_blt .len (cEs_cons (cE_var 0) cEs_nil)) (cE_const ( .int 2 )))) (cSs_cons (cS_ret (cE_const ( .bl false ))) cSs_nil) cSs_nil) (cSs_cons (cS_ret (cE_and_ (cE_call false 0 [ .a 0 , .a 1 , .a 2 ] (cEs_cons (cE_idx (cE_var 0) (cE_const ( .int 0 ))) (cEs_cons (cE_const ( .int 0 )) (cEs_cons (cE_const ( .int 9 )) cEs_nil)))) (cE_isi (cE_idx (cE_var 0) (cE_const ( .int 1 ))) [ .bool ] [ ]))) cSs_nil))
theorem he_f_is_cell : f_is_cell.body.den = h_f_is_cell := by
  simp only [f_is_cell, h_f_is_cell, Tgs.len, deE_const, deE_var, deE_tup, deE_fz, deE_cell, deE_bin, deE_neg, deE_not_, deE_and_, deE_or_, deE_cmp, deE_chain, deE_ite, deE_fld, deE_idx, deE_sli, deE_call, deE_meth, deE_own, deE_blt, deE_bm, deE_isi, deE_fstr, deOe_none, deOe_some, deEs_nil, deEs_cons, deQ_nil, deQ_cons, deL_disp, deL_cat, deL_rep, deL_list, deL_sorted, deL_sli, deL_comp, deL_comp2, deL_ddisp, deL_dcomp, deL_dcomp2, deL_dict, deKVs_nil, deKVs_cons, deIt_seq, deIt_range1, deIt_range2, deIt_range3, deIt_enum, deIt_zip, deIt_items, deTg_name, deTg_tup, deTg_fld, deTg_sub, deS_asg, deS_par, deS_expr, deS_ite, deS_for_, deS_while_, deS_ret, deS_del_, deS_pass_, deS_brk, deS_cnt, deS_never, deSs_nil, deSs_cons, deTgs_nil, deTgs_cons]
def g_f_is_cell : FnS := ⟨1, .pure, h_f_is_cell⟩
def h_f_is_column : DSs := (cSs_cons (cS_ite (cE_or_ (cE_not_ (cE_isi (cE_var 1) [ .tuple ] [ ])) (cE_cmp .ne (cE_blt .len (cEs_cons (cE_var 1) cEs_nil)) (cE_fld false (cE_var 0) 2))) (cSs_cons (cS_ret (cE_const ( .bl false ))) cSs_nil) cSs_nil) (cSs_cons (cS_ret (cE_cmp .nin (cE_const ( .bl false )) (cE_fz (cL_comp [ 2 ] (cTg_name 2) (cIt_seq (cE_var 1)) cQ_nil (cE_call false 7 [ .a 0 ] (cEs_cons (cE_var 2) cEs_nil)))))) cSs_nil))
theorem he_f_is_column : f_is_column.body.den = h_f_is_column := by
  simp only [f_is_column, h_f_is_column, Tgs.len, deE_const, deE_var, deE_tup, deE_fz, deE_cell, deE_bin, deE_neg, deE_not_, deE_and_, deE_or_, deE_cmp, deE_chain, deE_ite, deE_fld, deE_idx, deE_sli, deE_call, deE_meth, deE_own, deE_blt, deE_bm, deE_isi, deE_fstr, deOe_none, deOe_some, deEs_nil, deEs_cons, deQ_nil, deQ_cons, deL_disp, deL_cat, deL_rep, deL_list, deL_sorted, deL_sli, deL_comp, deL_comp2, deL_ddisp, deL_dcomp, deL_dcomp2, deL_dict, deKVs_nil, deKVs_cons, deIt_seq, deIt_range1, deIt_range2, deIt_range3, deIt_enum, deIt_zip, deIt_items, deTg_name, deTg_tup, deTg_fld, deTg_sub, deS_asg, deS_par, deS_expr, deS_ite, deS_for_, deS_while_, deS_ret, deS_del_, deS_pass_, deS_brk, deS_cnt, deS_never, deSs_nil, deSs_cons, deTgs_nil, deTgs_cons]
def g_f_is_column : FnS := ⟨3, .pure, h_f_is_column⟩
def h_f_Stretch___init__ : DSs := (cSs_cons (cS_ite (cE_not_ (cE_isi (cE_var 2) [ .list , .tuple ] [ ])) (cSs_cons cS_never cSs_nil) cSs_nil) (cSs_cons (cS_for_ (cTg_tup 2 (cTgs_cons (cTg_name 3) (cTgs_cons (cTg_name 4) cTgs_nil))) (cIt_enum (cE_var 2)) (cSs_cons (cS_ite (cE_not_ (cE_call false 8 [ .a 0 , .a 1 ] (cEs_cons (cE_var 1) (cEs_cons (cE_var 4) cEs_nil)))) (cSs_cons cS_never cSs_nil) cSs_nil) cSs_nil)) (cSs_cons (cS_asg (cTg_fld (cE_var 0) 4) (cE_var 1)) (cSs_cons (cS_asg (cTg_fld (cE_var 0) 3) (cE_fz (cL_list (cE_var 2)))) cSs_nil))))
theorem he_f_Stretch___init__ : f_Stretch___init__.body.den = h_f_Stretch___init__ := by
  simp only [f_Stretch___init__, h_f_Stretch___init__, Tgs.len, deE_const, deE_var, deE_tup, deE_fz, deE_cell, deE_bin, deE_neg, deE_not_, deE_and_, deE_or_, deE_cmp, deE_chain, deE_ite, deE_fld, deE_idx, deE_sli, deE_call, deE_meth, deE_own, deE_blt, deE_bm, deE_isi, deE_fstr, deOe_none, deOe_some, deEs_nil, deEs_cons, deQ_nil, deQ_cons, deL_disp, deL_cat, deL_rep, deL_list, deL_sorted, deL_sli, deL_comp, deL_comp2, deL_ddisp, deL_dcomp, deL_dcomp2, deL_dict, deKVs_nil, deKVs_cons, deIt_seq, deIt_range1, deIt_range2, deIt_range3, deIt_enum, deIt_zip, deIt_items, deTg_name, deTg_tup, deTg_fld, deTg_sub, deS_asg, deS_par, deS_expr, deS_ite, deS_for_, deS_while_, deS_ret, deS_del_, deS_pass_, deS_brk, deS_cnt, deS_never, deSs_nil, deSs_cons, deTgs_nil, deTgs_cons]
def g_f_Stretch___init__ : FnS := ⟨5, (.initF 1 2), h_f_Stretch___init__⟩
def h_f_Stretch_columns : DSs := (cSs_cons (cS_ret (cE_cell (cL_list (cE_fld false (cE_var 0) 3)))) cSs_nil)
theorem he_f_Stretch_columns : f_Stretch_columns.body.den = h_f_Stretch_columns := by
  simp only [f_Stretch_columns, h_f_Stretch_columns, Tgs.len, deE_const, deE_var, deE_tup, deE_fz, deE_cell, deE_bin, deE_neg, deE_not_, deE_and_, deE_or_, deE_cmp, deE_chain, deE_ite, deE_fld, deE_idx, deE_sli, deE_call, deE_meth, deE_own, deE_blt, deE_bm, deE_isi, deE_fstr, deOe_none, deOe_some, deEs_nil, deEs_cons, deQ_nil, deQ_cons, deL_disp, deL_cat, deL_rep, deL_list, deL_sorted, deL_sli, deL_comp, deL_comp2, deL_ddisp, deL_dcomp, deL_dcomp2, deL_dict, deKVs_nil, deKVs_cons, deIt_seq, deIt_range1, deIt_range2, deIt_range3, deIt_enum, deIt_zip, deIt_items, deTg_name, deTg_tup, deTg_fld, deTg_sub, deS_asg, deS_par, deS_expr, deS_ite, deS_for_, deS_while_, deS_ret, deS_del_, deS_pass_, deS_brk, deS_cnt, deS_never, deSs_nil, deSs_cons, deTgs_nil, deTgs_cons]
def g_f_Stretch_columns : FnS := ⟨1, .pure, h_f_Stretch_columns⟩
def h_f_Stretch___len__ : DSs := (cSs_cons (cS_ret (cE_blt .len (cEs_cons (cE_fld false (cE_var 0) 3) cEs_nil))) cSs_nil)
theorem he_f_Stretch___len__ : f_Stretch___len__.body.den = h_f_Stretch___len__ := by
  simp only [f_Stretch___len__, h_f_Stretch___len__, Tgs.len, deE_const, deE_var, deE_tup, deE_fz, deE_cell, deE_bin, deE_neg, deE_not_, deE_and_, deE_or_, deE_cmp, deE_chain, deE_ite, deE_fld, deE_idx, deE_sli, deE_call, deE_meth, deE_own, deE_blt, deE_bm, deE_isi, deE_fstr, deOe_none, deOe_some, deEs_nil, deEs_cons, deQ_nil, deQ_cons, deL_disp, deL_cat, deL_rep, deL_list, deL_sorted, deL_sli, deL_comp, deL_comp2, deL_ddisp, deL_dcomp, deL_dcomp2, deL_dict, deKVs_nil, deKVs_cons, deIt_seq, deIt_range1, deIt_range2, deIt_range3, deIt_enum, deIt_zip, deIt_items, deTg_name, deTg_tup, deTg_fld, deTg_sub, deS_asg, deS_par, deS_expr, deS_ite, deS_for_, deS_while_, deS_ret, deS_del_, deS_pass_, deS_brk, deS_cnt, deS_never, deSs_nil, deSs_cons, deTgs_nil, deTgs_cons]
def g_f_Stretch___len__ : FnS := ⟨1, .pure, h_f_Stretch___len__⟩
def h_f_Web___init__ : DSs := (cSs_cons (cS_ite (cE_cmp .lt (cE_own 7 (cEs_cons (cE_var 1) cEs_nil)) (cE_ite (cE_var 2) (cE_const ( .int 3 )) (cE_const ( .int 1 )))) (cSs_cons cS_never cSs_nil) cSs_nil) (cSs_cons (cS_asg (cTg_fld (cE_var 0) 6) (cE_var 1)) (cSs_cons (cS_asg (cTg_fld (cE_var 0) 5) (cE_var 2)) cSs_nil)))
theorem he_f_Web___init__ : f_Web___init__.body.den = h_f_Web___init__ := by
  simp only [f_Web___init__, h_f_Web___init__, Tgs.len, deE_const, deE_var, deE_tup, deE_fz, deE_cell, deE_bin, deE_neg, deE_not_, deE_and_, deE_or_, deE_cmp, deE_chain, deE_ite, deE_fld, deE_idx, deE_sli, deE_call, deE_meth, deE_own, deE_blt, deE_bm, deE_isi, deE_fstr, deOe_none, deOe_some, deEs_nil, deEs_cons, deQ_nil, deQ_cons, deL_disp, deL_cat, deL_rep, deL_list, deL_sorted, deL_sli, deL_comp, deL_comp2, deL_ddisp, deL_dcomp, deL_dcomp2, deL_dict, deKVs_nil, deKVs_cons, deIt_seq, deIt_range1, deIt_range2, deIt_range3, deIt_enum, deIt_zip, deIt_items, deTg_name, deTg_tup, deTg_fld, deTg_sub, deS_asg, deS_par, deS_expr, deS_ite, deS_for_, deS_while_, deS_ret, deS_del_, deS_pass_, deS_brk, deS_cnt, deS_never, deSs_nil, deSs_cons, deTgs_nil, deTgs_cons]
def g_f_Web___init__ : FnS := ⟨3, (.initF 2 2), h_f_Web___init__⟩
def h_f_Web_seats : DSs := (cSs_cons (cS_ret (cE_fz (cL_comp2 [ 1 , 2 ] [ 2 ] (cTg_name 1) (cIt_range1 (cE_own 7 (cEs_cons (cE_fld false (cE_var 0) 6) cEs_nil))) cQ_nil (cTg_name 2) (cIt_range1 (cE_fld false (cE_fld false (cE_fld false (cE_var 0) 6) 4) 2)) cQ_nil (cE_tup (cEs_cons (cE_var 1) (cEs_cons (cE_var 2) cEs_nil)))))) cSs_nil)
theorem he_f_Web_seats : f_Web_seats.body.den = h_f_Web_seats := by
  simp only [f_Web_seats, h_f_Web_seats, Tgs.len, deE_const, deE_var, deE_tup, deE_fz, deE_cell, deE_bin, deE_neg, deE_not_, deE_and_, deE_or_, deE_cmp, deE_chain, deE_ite, deE_fld, deE_idx, deE_sli, deE_call, deE_meth, deE_own, deE_blt, deE_bm, deE_isi, deE_fstr, deOe_none, deOe_some, deEs_nil, deEs_cons, deQ_nil, deQ_cons, deL_disp, deL_cat, deL_rep, deL_list, deL_sorted, deL_sli, deL_comp, deL_comp2, deL_ddisp, deL_dcomp, deL_dcomp2, deL_dict, deKVs_nil, deKVs_cons, deIt_seq, deIt_range1, deIt_range2, deIt_range3, deIt_enum, deIt_zip, deIt_items, deTg_name, deTg_tup, deTg_fld, deTg_sub, deS_asg, deS_par, deS_expr, deS_ite, deS_for_, deS_while_, deS_ret, deS_del_, deS_pass_, deS_brk, deS_cnt, deS_never, deSs_nil, deSs_cons, deTgs_nil, deTgs_cons]
def g_f_Web_seats : FnS := ⟨3, .pure, h_f_Web_seats⟩
def h_f_Web_is_seat : DSs := (cSs_cons (cS_ite (cE_or_ (cE_not_ (cE_isi (cE_var 1) [ .tuple ] [ ])) (cE_cmp .ne (cE_blt .len (cEs_cons (cE_var 1) cEs_nil)) (cE_const ( .int 2 )))) (cSs_cons (cS_ret (cE_const ( .bl false ))) cSs_nil) cSs_nil) (cSs_cons (cS_asg (cTg_name 2) (cE_fld false (cE_fld false (cE_var 0) 6) 4)) (cSs_cons (cS_ret (cE_and_ (cE_call false 0 [ .a 0 , .a 1 , .a 2 ] (cEs_cons (cE_idx (cE_var 1) (cE_const ( .int 0 ))) (cEs_cons (cE_const ( .int 0 )) (cEs_cons (cE_bin .sub (cE_own 7 (cEs_cons (cE_fld false (cE_var 0) 6) cEs_nil)) (cE_const ( .int 1 ))) cEs_nil)))) (cE_call false 0 [ .a 0 , .a 1 , .a 2 ] (cEs_cons (cE_idx (cE_var 1) (cE_const ( .int 1 ))) (cEs_cons (cE_const ( .int 0 )) (cEs_cons (cE_bin .sub (cE_fld false (cE_var 2) 2) (cE_const ( .int 1 ))) cEs_nil)))))) cSs_nil)))
theorem he_f_Web_is_seat : f_Web_is_seat.body.den = h_f_Web_is_seat := by
  simp only [f_Web_is_seat, h_f_Web_is_seat, Tgs.len, deE_const, deE_var, deE_tup, deE_fz, deE_cell, deE_bin, deE_neg, deE_not_, deE_and_, deE_or_, deE_cmp, deE_chain, deE_ite, deE_fld, deE_idx, deE_sli, deE_call, deE_meth, deE_own, deE_blt, deE_bm, deE_isi, deE_fstr, deOe_none, deOe_some, deEs_nil, deEs_cons, deQ_nil, deQ_cons, deL_disp, deL_cat, deL_rep, deL_list, deL_sorted, deL_sli, deL_comp, deL_comp2, deL_ddisp, deL_dcomp, deL_dcomp2, deL_dict, deKVs_nil, deKVs_cons, deIt_seq, deIt_range1, deIt_range2, deIt_range3, deIt_enum, deIt_zip, deIt_items, deTg_name, deTg_tup, deTg_fld, deTg_sub, deS_asg, deS_par, deS_expr, deS_ite, deS_for_, deS_while_, deS_ret, deS_del_, deS_pass_, deS_brk, deS_cnt, deS_never, deSs_nil, deSs_cons, deTgs_nil, deTgs_cons]
def g_f_Web_is_seat : FnS := ⟨3, .pure, h_f_Web_is_seat⟩
def h_f_Web_must_have : DSs := (cSs_cons (cS_ite (cE_not_ (cE_meth false (cE_var 0) 8 [ .a 0 ] (cEs_cons (cE_var 1) cEs_nil))) (cSs_cons cS_never cSs_nil) cSs_nil) cSs_nil)
theorem he_f_Web_must_have : f_Web_must_have.body.den = h_f_Web_must_have := by
  simp only [f_Web_must_have, h_f_Web_must_have, Tgs.len, deE_const, deE_var, deE_tup, deE_fz, deE_cell, deE_bin, deE_neg, deE_not_, deE_and_, deE_or_, deE_cmp, deE_chain, deE_ite, deE_fld, deE_idx, deE_sli, deE_call, deE_meth, deE_own, deE_blt, deE_bm, deE_isi, deE_fstr, deOe_none, deOe_some, deEs_nil, deEs_cons, deQ_nil, deQ_cons, deL_disp, deL_cat, deL_rep, deL_list, deL_sorted, deL_sli, deL_comp, deL_comp2, deL_ddisp, deL_dcomp, deL_dcomp2, deL_dict, deKVs_nil, deKVs_cons, deIt_seq, deIt_range1, deIt_range2, deIt_range3, deIt_enum, deIt_zip, deIt_items, deTg_name, deTg_tup, deTg_fld, deTg_sub, deS_asg, deS_par, deS_expr, deS_ite, deS_for_, deS_while_, deS_ret, deS_del_, deS_pass_, deS_brk, deS_cnt, deS_never, deSs_nil, deSs_cons, deTgs_nil, deTgs_cons]
def g_f_Web_must_have : FnS := ⟨2, .pure, h_f_Web_must_have⟩
def h_f_Web_cell : DSs := (cSs_cons (cS_expr (cE_meth false (cE_var 0) 9 [ .a 0 ] (cEs_cons (cE_var 1) cEs_nil))) (cSs_cons (cS_ret (cE_idx (cE_idx (cE_fld false (cE_fld false (cE_var 0) 6) 3) (cE_idx (cE_var 1) (cE_const ( .int 0 )))) (cE_idx (cE_var 1) (cE_const ( .int 1 ))))) cSs_nil))
theorem he_f_Web_cell : f_Web_cell.body.den = h_f_Web_cell := by
  simp only [f_Web_cell, h_f_Web_cell, Tgs.len, deE_const, deE_var, deE_tup, deE_fz, deE_cell, deE_bin, deE_neg, deE_not_, deE_and_, deE_or_, deE_cmp, deE_chain, deE_ite, deE_fld, deE_idx, deE_sli, deE_call, deE_meth, deE_own, deE_blt, deE_bm, deE_isi, deE_fstr, deOe_none, deOe_some, deEs_nil, deEs_cons, deQ_nil, deQ_cons, deL_disp, deL_cat, deL_rep, deL_list, deL_sorted, deL_sli, deL_comp, deL_comp2, deL_ddisp, deL_dcomp, deL_dcomp2, deL_dict, deKVs_nil, deKVs_cons, deIt_seq, deIt_range1, deIt_range2, deIt_range3, deIt_enum, deIt_zip, deIt_items, deTg_name, deTg_tup, deTg_fld, deTg_sub, deS_asg, deS_par, deS_expr, deS_ite, deS_for_, deS_while_, deS_ret, deS_del_, deS_pass_, deS_brk, deS_cnt, deS_never, deSs_nil, deSs_cons, deTgs_nil, deTgs_cons]
def g_f_Web_cell : FnS := ⟨2, .pure, h_f_Web_cell⟩
def h_f_Web_neighbours : DSs := (cSs_cons (cS_expr (cE_meth false (cE_var 0) 9 [ .a 0 ] (cEs_cons (cE_var 1) cEs_nil))) (cSs_cons (cS_asg (cTg_tup 2 (cTgs_cons (cTg_name 2) (cTgs_cons (cTg_name 3) cTgs_nil))) (cE_var 1)) (cSs_cons (cS_asg (cTg_tup 2 (cTgs_cons (cTg_name 4) (cTgs_cons (cTg_name 5) cTgs_nil))) (cE_tup (cEs_cons (cE_fld false (cE_fld false (cE_var 0) 6) 4) (cEs_cons (cE_own 7 (cEs_cons (cE_fld false (cE_var 0) 6) cEs_nil)) cEs_nil)))) (cSs_cons (cS_asg (cTg_name 6) (cE_fz (cL_comp [ 7 ] (cTg_name 7) (cIt_seq (cE_meth false (cE_var 4) 12 [ .a 0 ] (cEs_cons (cE_var 3) cEs_nil))) cQ_nil (cE_tup (cEs_cons (cE_var 2) (cEs_cons (cE_var 7) cEs_nil)))))) (cSs_cons (cS_ite (cE_or_ (cE_fld false (cE_var 0) 5) (cE_cmp .lt (cE_bin .add (cE_var 2) (cE_const ( .int 1 ))) (cE_var 5))) (cSs_cons (cS_asg (cTg_name 6) (cE_fz (cL_cat (cE_var 6) (cE_fz (cL_comp [ 7 ] (cTg_name 7) (cIt_seq (cE_meth false (cE_var 4) 11 [ .a 0 ] (cEs_cons (cE_var 3) cEs_nil))) cQ_nil (cE_tup (cEs_cons (cE_bin .mod (cE_bin .add (cE_var 2) (cE_const ( .int 1 ))) (cE_var 5)) (cEs_cons (cE_var 7) cEs_nil)))))))) cSs_nil) cSs_nil) (cSs_cons (cS_ite (cE_or_ (cE_fld false (cE_var 0) 5) (cE_cmp .gt (cE_var 2) (cE_const ( .int 0 )))) (cSs_cons (cS_asg (cTg_name 6) (cE_fz (cL_cat (cE_var 6) (cE_fz (cL_comp [ 7 ] (cTg_name 7) (cIt_seq (cE_meth false (cE_var 4) 10 [ .a 0 ] (cEs_cons (cE_var 3) cEs_nil))) cQ_nil (cE_tup (cEs_cons (cE_bin .mod (cE_bin .sub (cE_var 2) (cE_const ( .int 1 ))) (cE_var 5)) (cEs_cons (cE_var 7) cEs_nil)))))))) cSs_nil) cSs_nil) (cSs_cons (cS_ret (cE_fz (cL_sorted (cE_var 6)))) cSs_nil)))))))
theorem he_f_Web_neighbours : f_Web_neighbours.body.den = h_f_Web_neighbours := by
  simp only [f_Web_neighbours, h_f_Web_neighbours, Tgs.len, deE_const, deE_var, deE_tup, deE_fz, deE_cell, deE_bin, deE_neg, deE_not_, deE_and_, deE_or_, deE_cmp, deE_chain, deE_ite, deE_fld, deE_idx, deE_sli, deE_call, deE_meth, deE_own, deE_blt, deE_bm, deE_isi, deE_fstr, deOe_none, deOe_some, deEs_nil, deEs_cons, deQ_nil, deQ_cons, deL_disp, deL_cat, deL_rep, deL_list, deL_sorted, deL_sli, deL_comp, deL_comp2, deL_ddisp, deL_dcomp, deL_dcomp2, deL_dict, deKVs_nil, deKVs_cons, deIt_seq, deIt_range1, deIt_range2, deIt_range3, deIt_enum, deIt_zip, deIt_items, deTg_name, deTg_tup, deTg_fld, deTg_sub, deS_asg, deS_par, deS_expr, deS_ite, deS_for_, deS_while_, deS_ret, deS_del_, deS_pass_, deS_brk, deS_cnt, deS_never, deSs_nil, deSs_cons, deTgs_nil, deTgs_cons]
def g_f_Web_neighbours : FnS := ⟨8, .pure, h_f_Web_neighbours⟩
def h_f_Web_changed : DSs := (cSs_cons (cS_expr (cE_meth false (cE_var 0) 9 [ .a 0 ] (cEs_cons (cE_var 1) cEs_nil))) (cSs_cons (cS_ite (cE_not_ (cE_call false 7 [ .a 0 ] (cEs_cons (cE_var 2) cEs_nil))) (cSs_cons cS_never cSs_nil) cSs_nil) (cSs_cons (cS_asg (cTg_name 3) (cE_fld true (cE_fld false (cE_var 0) 6) 13)) (cSs_cons (cS_asg (cTg_name 4) (cE_cell (cL_list (cE_idx (cE_var 3) (cE_idx (cE_var 1) (cE_const ( .int 0 ))))))) (cSs_cons (cS_asg (cTg_sub (cE_var 4) (cE_idx (cE_var 1) (cE_const ( .int 1 )))) (cE_var 2)) (cSs_cons (cS_asg (cTg_sub (cE_var 3) (cE_idx (cE_var 1) (cE_const ( .int 0 )))) (cE_blt .tuple1 (cEs_cons (cE_var 4) cEs_nil))) (cSs_cons (cS_ret (cE_call false 12 [ .a 0 , .a 1 ] (cEs_cons (cE_call false 9 [ .a 0 , .a 1 ] (cEs_cons (cE_fld false (cE_fld false (cE_var 0) 6) 4) (cEs_cons (cE_var 3) cEs_nil))) (cEs_cons (cE_fld false (cE_var 0) 5) cEs_nil)))) cSs_nil)))))))
theorem he_f_Web_changed : f_Web_changed.body.den = h_f_Web_changed := by
  simp only [f_Web_changed, h_f_Web_changed, Tgs.len, deE_const, deE_var, deE_tup, deE_fz, deE_cell, deE_bin, deE_neg, deE_not_, deE_and_, deE_or_, deE_cmp, deE_chain, deE_ite, deE_fld, deE_idx, deE_sli, deE_call, deE_meth, deE_own, deE_blt, deE_bm, deE_isi, deE_fstr, deOe_none, deOe_some, deEs_nil, deEs_cons, deQ_nil, deQ_cons, deL_disp, deL_cat, deL_rep, deL_list, deL_sorted, deL_sli, deL_comp, deL_comp2, deL_ddisp, deL_dcomp, deL_dcomp2, deL_dict, deKVs_nil, deKVs_cons, deIt_seq, deIt_range1, deIt_range2, deIt_range3, deIt_enum, deIt_zip, deIt_items, deTg_name, deTg_tup, deTg_fld, deTg_sub, deS_asg, deS_par, deS_expr, deS_ite, deS_for_, deS_while_, deS_ret, deS_del_, deS_pass_, deS_brk, deS_cnt, deS_never, deSs_nil, deSs_cons, deTgs_nil, deTgs_cons]
def g_f_Web_changed : FnS := ⟨5, .pure, h_f_Web_changed⟩
def h_f_Field___init__ : DSs := (cSs_cons (cS_asg (cTg_fld (cE_var 0) 20) (cE_var 1)) (cSs_cons (cS_asg (cTg_fld (cE_var 0) 19) (cE_var 1)) (cSs_cons (cS_asg (cTg_fld (cE_var 0) 16) (cE_cell (cL_dcomp [ 2 ] (cTg_name 2) (cIt_seq (cE_meth false (cE_var 1) 18 [ ] cEs_nil)) (cQ_cons (cE_idx (cE_meth false (cE_var 1) 17 [ .a 0 ] (cEs_cons (cE_var 2) cEs_nil)) (cE_const ( .int 1 ))) cQ_nil) (cE_var 2) (cE_const ( .bl true ))))) (cSs_cons (cS_asg (cTg_fld (cE_var 0) 15) (cE_cell (cL_disp cEs_nil))) (cSs_cons (cS_asg (cTg_fld (cE_var 0) 14) (cE_cell (cL_disp cEs_nil))) cSs_nil)))))
theorem he_f_Field___init__ : f_Field___init__.body.den = h_f_Field___init__ := by
  simp only [f_Field___init__, h_f_Field___init__, Tgs.len, deE_const, deE_var, deE_tup, deE_fz, deE_cell, deE_bin, deE_neg, deE_not_, deE_and_, deE_or_, deE_cmp, deE_chain, deE_ite, deE_fld, deE_idx, deE_sli, deE_call, deE_meth, deE_own, deE_blt, deE_bm, deE_isi, deE_fstr, deOe_none, deOe_some, deEs_nil, deEs_cons, deQ_nil, deQ_cons, deL_disp, deL_cat, deL_rep, deL_list, deL_sorted, deL_sli, deL_comp, deL_comp2, deL_ddisp, deL_dcomp, deL_dcomp2, deL_dict, deKVs_nil, deKVs_cons, deIt_seq, deIt_range1, deIt_range2, deIt_range3, deIt_enum, deIt_zip, deIt_items, deTg_name, deTg_tup, deTg_fld, deTg_sub, deS_asg, deS_par, deS_expr, deS_ite, deS_for_, deS_while_, deS_ret, deS_del_, deS_pass_, deS_brk, deS_cnt, deS_never, deSs_nil, deSs_cons, deTgs_nil, deTgs_cons]
def g_f_Field___init__ : FnS := ⟨3, (.initM 3 5), h_f_Field___init__⟩
def h_f_Field_web : DSs := (cSs_cons (cS_ret (cE_fld false (cE_var 0) 19)) cSs_nil)
theorem he_f_Field_web : f_Field_web.body.den = h_f_Field_web := by
  simp only [f_Field_web, h_f_Field_web, Tgs.len, deE_const, deE_var, deE_tup, deE_fz, deE_cell, deE_bin, deE_neg, deE_not_, deE_and_, deE_or_, deE_cmp, deE_chain, deE_ite, deE_fld, deE_idx, deE_sli, deE_call, deE_meth, deE_own, deE_blt, deE_bm, deE_isi, deE_fstr, deOe_none, deOe_some, deEs_nil, deEs_cons, deQ_nil, deQ_cons, deL_disp, deL_cat, deL_rep, deL_list, deL_sorted, deL_sli, deL_comp, deL_comp2, deL_ddisp, deL_dcomp, deL_dcomp2, deL_dict, deKVs_nil, deKVs_cons, deIt_seq, deIt_range1, deIt_range2, deIt_range3, deIt_enum, deIt_zip, deIt_items, deTg_name, deTg_tup, deTg_fld, deTg_sub, deS_asg, deS_par, deS_expr, deS_ite, deS_for_, deS_while_, deS_ret, deS_del_, deS_pass_, deS_brk, deS_cnt, deS_never, deSs_nil, deSs_cons, deTgs_nil, deTgs_cons]
def g_f_Field_web : FnS := ⟨1, .pure, h_f_Field_web⟩
def h_f_Field_inside : DSs := (cSs_cons (cS_ret (cE_fz (cL_sorted (cE_fz (cL_list (cE_fld false (cE_var 0) 16)))))) cSs_nil)
theorem he_f_Field_inside : f_Field_inside.body.den = h_f_Field_inside := by
  simp only [f_Field_inside, h_f_Field_inside, Tgs.len, deE_const, deE_var, deE_tup, deE_fz, deE_cell, deE_bin, deE_neg, deE_not_, deE_and_, deE_or_, deE_cmp, deE_chain, deE_ite, deE_fld, deE_idx, deE_sli, deE_call, deE_meth, deE_own, deE_blt, deE_bm, deE_isi, deE_fstr, deOe_none, deOe_some, deEs_nil, deEs_cons, deQ_nil, deQ_cons, deL_disp, deL_cat, deL_rep, deL_list, deL_sorted, deL_sli, deL_comp, deL_comp2, deL_ddisp, deL_dcomp, deL_dcomp2, deL_dict, deKVs_nil, deKVs_cons, deIt_seq, deIt_range1, deIt_range2, deIt_range3, deIt_enum, deIt_zip, deIt_items, deTg_name, deTg_tup, deTg_fld, deTg_sub, deS_asg, deS_par, deS_expr, deS_ite, deS_for_, deS_while_, deS_ret, deS_del_, deS_pass_, deS_brk, deS_cnt, deS_never, deSs_nil, deSs_cons, deTgs_nil, deTgs_cons]
def g_f_Field_inside : FnS := ⟨1, .pure, h_f_Field_inside⟩
def h_f_Field_history : DSs := (cSs_cons (cS_ret (cE_fz (cL_list (cE_fld false (cE_var 0) 15)))) cSs_nil)
theorem he_f_Field_history : f_Field_history.body.den = h_f_Field_history := by
  simp only [f_Field_history, h_f_Field_history, Tgs.len, deE_const, deE_var, deE_tup, deE_fz, deE_cell, deE_bin, deE_neg, deE_not_, deE_and_, deE_or_, deE_cmp, deE_chain, deE_ite, deE_fld, deE_idx, deE_sli, deE_call, deE_meth, deE_own, deE_blt, deE_bm, deE_isi, deE_fstr, deOe_none, deOe_some, deEs_nil, deEs_cons, deQ_nil, deQ_cons, deL_disp, deL_cat, deL_rep, deL_list, deL_sorted, deL_sli, deL_comp, deL_comp2, deL_ddisp, deL_dcomp, deL_dcomp2, deL_dict, deKVs_nil, deKVs_cons, deIt_seq, deIt_range1, deIt_range2, deIt_range3, deIt_enum, deIt_zip, deIt_items, deTg_name, deTg_tup, deTg_fld, deTg_sub, deS_asg, deS_par, deS_expr, deS_ite, deS_for_, deS_while_, deS_ret, deS_del_, deS_pass_, deS_brk, deS_cnt, deS_never, deSs_nil, deSs_cons, deTgs_nil, deTgs_cons]
def g_f_Field_history : FnS := ⟨1, .pure, h_f_Field_history⟩
def h_f_Field_can_join : DSs := (cSs_cons (cS_asg (cTg_name 1) (cE_cell (cL_disp cEs_nil))) (cSs_cons (cS_for_ (cTg_name 2) (cIt_seq (cE_meth false (cE_fld false (cE_var 0) 19) 18 [ ] cEs_nil)) (cSs_cons (cS_asg (cTg_name 3) (cE_fz (cL_comp [ 4 ] (cTg_name 4) (cIt_seq (cE_meth false (cE_fld false (cE_var 0) 19) 21 [ .a 0 ] (cEs_cons (cE_var 2) cEs_nil))) (cQ_cons (cE_cmp .in_ (cE_var 4) (cE_fld false (cE_var 0) 16)) cQ_nil) (cE_var 4)))) (cSs_cons (cS_ite (cE_and_ (cE_cmp .nin (cE_var 2) (cE_fld false (cE_var 0) 16)) (cE_cmp .ge (cE_blt .len (cEs_cons (cE_var 3) cEs_nil)) (cE_idx (cE_meth false (cE_fld false (cE_var 0) 19) 17 [ .a 0 ] (cEs_cons (cE_var 2) cEs_nil)) (cE_const ( .int 0 ))))) (cSs_cons (cS_expr (cE_bm (cE_var 1) .append (cEs_cons (cE_var 2) cEs_nil))) cSs_nil) cSs_nil) cSs_nil))) (cSs_cons (cS_ret (cE_var 1)) cSs_nil)))
theorem he_f_Field_can_join : f_Field_can_join.body.den = h_f_Field_can_join := by
  simp only [f_Field_can_join, h_f_Field_can_join, Tgs.len, deE_const, deE_var, deE_tup, deE_fz, deE_cell, deE_bin, deE_neg, deE_not_, deE_and_, deE_or_, deE_cmp, deE_chain, deE_ite, deE_fld, deE_idx, deE_sli, deE_call, deE_meth, deE_own, deE_blt, deE_bm, deE_isi, deE_fstr, deOe_none, deOe_some, deEs_nil, deEs_cons, deQ_nil, deQ_cons, deL_disp, deL_cat, deL_rep, deL_list, deL_sorted, deL_sli, deL_comp, deL_comp2, deL_ddisp, deL_dcomp, deL_dcomp2, deL_dict, deKVs_nil, deKVs_cons, deIt_seq, deIt_range1, deIt_range2, deIt_range3, deIt_enum, deIt_zip, deIt_items, deTg_name, deTg_tup, deTg_fld, deTg_sub, deS_asg, deS_par, deS_expr, deS_ite, deS_for_, deS_while_, deS_ret, deS_del_, deS_pass_, deS_brk, deS_cnt, deS_never, deSs_nil, deSs_cons, deTgs_nil, deTgs_cons]
def g_f_Field_can_join : FnS := ⟨5, .pure, h_f_Field_can_join⟩
def h_f_Field_note : DSs := (cSs_cons (cS_expr (cE_bm (cE_fld false (cE_var 0) 14) .append (cEs_cons (cE_tup (cEs_cons (cE_fld false (cE_var 0) 19) (cEs_cons (cE_fz (cL_list (cE_fld false (cE_var 0) 16))) cEs_nil))) cEs_nil))) (cSs_cons (cS_expr (cE_bm (cE_fld false (cE_var 0) 15) .append (cEs_cons (cE_var 1) cEs_nil))) cSs_nil))
theorem he_f_Field_note : f_Field_note.body.den = h_f_Field_note := by
  simp only [f_Field_note, h_f_Field_note, Tgs.len, deE_const, deE_var, deE_tup, deE_fz, deE_cell, deE_bin, deE_neg, deE_not_, deE_and_, deE_or_, deE_cmp, deE_chain, deE_ite, deE_fld, deE_idx, deE_sli, deE_call, deE_meth, deE_own, deE_blt, deE_bm, deE_isi, deE_fstr, deOe_none, deOe_some, deEs_nil, deEs_cons, deQ_nil, deQ_cons, deL_disp, deL_cat, deL_rep, deL_list, deL_sorted, deL_sli, deL_comp, deL_comp2, deL_ddisp, deL_dcomp, deL_dcomp2, deL_dict, deKVs_nil, deKVs_cons, deIt_seq, deIt_range1, deIt_range2, deIt_range3, deIt_enum, deIt_zip, deIt_items, deTg_name, deTg_tup, deTg_fld, deTg_sub, deS_asg, deS_par, deS_expr, deS_ite, deS_for_, deS_while_, deS_ret, deS_del_, deS_pass_, deS_brk, deS_cnt, deS_never, deSs_nil, deSs_cons, deTgs_nil, deTgs_cons]
def g_f_Field_note : FnS := ⟨2, .imp, h_f_Field_note⟩
def h_f_Field_enter : DSs := (cSs_cons (cS_expr (cE_meth false (cE_fld false (cE_var 0) 19) 9 [ .a 0 ] (cEs_cons (cE_var 1) cEs_nil))) (cSs_cons (cS_ite (cE_cmp .nin (cE_var 1) (cE_meth false (cE_var 0) 23 [ ] cEs_nil)) (cSs_cons cS_never cSs_nil) cSs_nil) (cSs_cons (cS_expr (cE_meth false (cE_var 0) 22 [ .a 0 ] (cEs_cons (cE_tup (cEs_cons (cE_const ( .str [ 101 , 110 , 116 , 101 , 114 ] )) (cEs_cons (cE_var 1) cEs_nil))) cEs_nil))) (cSs_cons (cS_asg (cTg_sub (cE_fld false (cE_var 0) 16) (cE_var 1)) (cE_const ( .bl true ))) cSs_nil))))
theorem he_f_Field_enter : f_Field_enter.body.den = h_f_Field_enter := by
  simp only [f_Field_enter, h_f_Field_enter, Tgs.len, deE_const, deE_var, deE_tup, deE_fz, deE_cell, deE_bin, deE_neg, deE_not_, deE_and_, deE_or_, deE_cmp, deE_chain, deE_ite, deE_fld, deE_idx, deE_sli, deE_call, deE_meth, deE_own, deE_blt, deE_bm, deE_isi, deE_fstr, deOe_none, deOe_some, deEs_nil, deEs_cons, deQ_nil, deQ_cons, deL_disp, deL_cat, deL_rep, deL_list, deL_sorted, deL_sli, deL_comp, deL_comp2, deL_ddisp, deL_dcomp, deL_dcomp2, deL_dict, deKVs_nil, deKVs_cons, deIt_seq, deIt_range1, deIt_range2, deIt_range3, deIt_enum, deIt_zip, deIt_items, deTg_name, deTg_tup, deTg_fld, deTg_sub, deS_asg, deS_par, deS_expr, deS_ite, deS_for_, deS_while_, deS_ret, deS_del_, deS_pass_, deS_brk, deS_cnt, deS_never, deSs_nil, deSs_cons, deTgs_nil, deTgs_cons]
def g_f_Field_enter : FnS := ⟨2, .imp, h_f_Field_enter⟩
def h_f_Field_step : DSs := (cSs_cons (cS_asg (cTg_name 1) (cE_meth false (cE_var 0) 23 [ ] cEs_nil)) (cSs_cons (cS_expr (cE_meth false (cE_var 0) 22 [ .a 0 ] (cEs_cons (cE_tup (cEs_cons (cE_const ( .str [ 115 , 116 , 101 , 112 ] )) cEs_nil)) cEs_nil))) (cSs_cons (cS_for_ (cTg_name 2) (cIt_seq (cE_var 1)) (cSs_cons (cS_asg (cTg_sub (cE_fld false (cE_var 0) 16) (cE_var 2)) (cE_const ( .bl true ))) cSs_nil)) (cSs_cons (cS_ret (cE_var 1)) cSs_nil))))
theorem he_f_Field_step : f_Field_step.body.den = h_f_Field_step := by
  simp only [f_Field_step, h_f_Field_step, Tgs.len, deE_const, deE_var, deE_tup, deE_fz, deE_cell, deE_bin, deE_neg, deE_not_, deE_and_, deE_or_, deE_cmp, deE_chain, deE_ite, deE_fld, deE_idx, deE_sli, deE_call, deE_meth, deE_own, deE_blt, deE_bm, deE_isi, deE_fstr, deOe_none, deOe_some, deEs_nil, deEs_cons, deQ_nil, deQ_cons, deL_disp, deL_cat, deL_rep, deL_list, deL_sorted, deL_sli, deL_comp, deL_comp2, deL_ddisp, deL_dcomp, deL_dcomp2, deL_dict, deKVs_nil, deKVs_cons, deIt_seq, deIt_range1, deIt_range2, deIt_range3, deIt_enum, deIt_zip, deIt_items, deTg_name, deTg_tup, deTg_fld, deTg_sub, deS_asg, deS_par, deS_expr, deS_ite, deS_for_, deS_while_, deS_ret, deS_del_, deS_pass_, deS_brk, deS_cnt, deS_never, deSs_nil, deSs_cons, deTgs_nil, deTgs_cons]
def g_f_Field_step : FnS := ⟨3, .imp, h_f_Field_step⟩
def h_f_Field_put : DSs := (cSs_cons (cS_expr (cE_meth false (cE_fld false (cE_var 0) 19) 9 [ .a 0 ] (cEs_cons (cE_var 1) cEs_nil))) (cSs_cons (cS_ite (cE_cmp .in_ (cE_var 1) (cE_fld false (cE_var 0) 16)) (cSs_cons cS_never cSs_nil) cSs_nil) (cSs_cons (cS_expr (cE_meth false (cE_var 0) 22 [ .a 0 ] (cEs_cons (cE_tup (cEs_cons (cE_const ( .str [ 112 , 117 , 116 ] )) (cEs_cons (cE_var 1) cEs_nil))) cEs_nil))) (cSs_cons (cS_asg (cTg_sub (cE_fld false (cE_var 0) 16) (cE_var 1)) (cE_const ( .bl true ))) cSs_nil))))
theorem he_f_Field_put : f_Field_put.body.den = h_f_Field_put := by
  simp only [f_Field_put, h_f_Field_put, Tgs.len, deE_const, deE_var, deE_tup, deE_fz, deE_cell, deE_bin, deE_neg, deE_not_, deE_and_, deE_or_, deE_cmp, deE_chain, deE_ite, deE_fld, deE_idx, deE_sli, deE_call, deE_meth, deE_own, deE_blt, deE_bm, deE_isi, deE_fstr, deOe_none, deOe_some, deEs_nil, deEs_cons, deQ_nil, deQ_cons, deL_disp, deL_cat, deL_rep, deL_list, deL_sorted, deL_sli, deL_comp, deL_comp2, deL_ddisp, deL_dcomp, deL_dcomp2, deL_dict, deKVs_nil, deKVs_cons, deIt_seq, deIt_range1, deIt_range2, deIt_range3, deIt_enum, deIt_zip, deIt_items, deTg_name, deTg_tup, deTg_fld, deTg_sub, deS_asg, deS_par, deS_expr, deS_ite, deS_for_, deS_while_, deS_ret, deS_del_, deS_pass_, deS_brk, deS_cnt, deS_never, deSs_nil, deSs_cons, deTgs_nil, deTgs_cons]
def g_f_Field_put : FnS := ⟨2, .imp, h_f_Field_put⟩
def h_f_Field_leave : DSs := (cSs_cons (cS_expr (cE_meth false (cE_fld false (cE_var 0) 19) 9 [ .a 0 ] (cEs_cons (cE_var 1) cEs_nil))) (cSs_cons (cS_ite (cE_cmp .nin (cE_var 1) (cE_fld false (cE_var 0) 16)) (cSs_cons cS_never cSs_nil) cSs_nil) (cSs_cons (cS_expr (cE_meth false (cE_var 0) 22 [ .a 0 ] (cEs_cons (cE_tup (cEs_cons (cE_const ( .str [ 108 , 101 , 97 , 118 , 101 ] )) (cEs_cons (cE_var 1) cEs_nil))) cEs_nil))) (cSs_cons (cS_del_ (cE_fld false (cE_var 0) 16) (cE_var 1)) cSs_nil))))
theorem he_f_Field_leave : f_Field_leave.body.den = h_f_Field_leave := by
  simp only [f_Field_leave, h_f_Field_leave, Tgs.len, deE_const, deE_var, deE_tup, deE_fz, deE_cell, deE_bin, deE_neg, deE_not_, deE_and_, deE_or_, deE_cmp, deE_chain, deE_ite, deE_fld, deE_idx, deE_sli, deE_call, deE_meth, deE_own, deE_blt, deE_bm, deE_isi, deE_fstr, deOe_none, deOe_some, deEs_nil, deEs_cons, deQ_nil, deQ_cons, deL_disp, deL_cat, deL_rep, deL_list, deL_sorted, deL_sli, deL_comp, deL_comp2, deL_ddisp, deL_dcomp, deL_dcomp2, deL_dict, deKVs_nil, deKVs_cons, deIt_seq, deIt_range1, deIt_range2, deIt_range3, deIt_enum, deIt_zip, deIt_items, deTg_name, deTg_tup, deTg_fld, deTg_sub, deS_asg, deS_par, deS_expr, deS_ite, deS_for_, deS_while_, deS_ret, deS_del_, deS_pass_, deS_brk, deS_cnt, deS_never, deSs_nil, deSs_cons, deTgs_nil, deTgs_cons]
def g_f_Field_leave : FnS := ⟨2, .imp, h_f_Field_leave⟩
def h_f_Field_set_need : DSs := (cSs_cons (cS_expr (cE_meth false (cE_fld false (cE_var 0) 19) 9 [ .a 0 ] (cEs_cons (cE_var 1) cEs_nil))) (cSs_cons (cS_ite (cE_not_ (cE_call false 0 [ .a 0 , .a 1 , .a 2 ] (cEs_cons (cE_var 2) (cEs_cons (cE_const ( .int 0 )) (cEs_cons (cE_const ( .int 9 )) cEs_nil))))) (cSs_cons cS_never cSs_nil) cSs_nil) (cSs_cons (cS_expr (cE_meth false (cE_var 0) 22 [ .a 0 ] (cEs_cons (cE_tup (cEs_cons (cE_const ( .str [ 110 , 101 , 101 , 100 ] )) (cEs_cons (cE_var 1) (cEs_cons (cE_var 2) cEs_nil)))) cEs_nil))) (cSs_cons (cS_asg (cTg_fld (cE_var 0) 19) (cE_meth false (cE_fld false (cE_var 0) 19) 24 [ .a 0 , .a 1 ] (cEs_cons (cE_var 1) (cEs_cons (cE_tup (cEs_cons (cE_var 2) (cEs_cons (cE_idx (cE_meth false (cE_fld false (cE_var 0) 19) 17 [ .a 0 ] (cEs_cons (cE_var 1) cEs_nil)) (cE_const ( .int 1 ))) cEs_nil))) cEs_nil)))) cSs_nil))))
theorem he_f_Field_set_need : f_Field_set_need.body.den = h_f_Field_set_need := by
  simp only [f_Field_set_need, h_f_Field_set_need, Tgs.len, deE_const, deE_var, deE_tup, deE_fz, deE_cell, deE_bin, deE_neg, deE_not_, deE_and_, deE_or_, deE_cmp, deE_chain, deE_ite, deE_fld, deE_idx, deE_sli, deE_call, deE_meth, deE_own, deE_blt, deE_bm, deE_isi, deE_fstr, deOe_none, deOe_some, deEs_nil, deEs_cons, deQ_nil, deQ_cons, deL_disp, deL_cat, deL_rep, deL_list, deL_sorted, deL_sli, deL_comp, deL_comp2, deL_ddisp, deL_dcomp, deL_dcomp2, deL_dict, deKVs_nil, deKVs_cons, deIt_seq, deIt_range1, deIt_range2, deIt_range3, deIt_enum, deIt_zip, deIt_items, deTg_name, deTg_tup, deTg_fld, deTg_sub, deS_asg, deS_par, deS_expr, deS_ite, deS_for_, deS_while_, deS_ret, deS_del_, deS_pass_, deS_brk, deS_cnt, deS_never, deSs_nil, deSs_cons, deTgs_nil, deTgs_cons]
def g_f_Field_set_need : FnS := ⟨3, .imp, h_f_Field_set_need⟩
def h_f_Field_undo : DSs := (cSs_cons (cS_ite (cE_cmp .eq (cE_fld false (cE_var 0) 15) (cE_fz (cL_disp cEs_nil))) (cSs_cons cS_never cSs_nil) cSs_nil) (cSs_cons (cS_asg (cTg_tup 2 (cTgs_cons (cTg_fld (cE_var 0) 19) (cTgs_cons (cTg_name 1) cTgs_nil))) (cE_bm (cE_fld false (cE_var 0) 14) .pop0 cEs_nil)) (cSs_cons (cS_asg (cTg_fld (cE_var 0) 16) (cE_cell (cL_dcomp [ 2 ] (cTg_name 2) (cIt_seq (cE_var 1)) cQ_nil (cE_var 2) (cE_const ( .bl true ))))) (cSs_cons (cS_ret (cE_bm (cE_fld false (cE_var 0) 15) .pop0 cEs_nil)) cSs_nil))))
theorem he_f_Field_undo : f_Field_undo.body.den = h_f_Field_undo := by
  simp only [f_Field_undo, h_f_Field_undo, Tgs.len, deE_const, deE_var, deE_tup, deE_fz, deE_cell, deE_bin, deE_neg, deE_not_, deE_and_, deE_or_, deE_cmp, deE_chain, deE_ite, deE_fld, deE_idx, deE_sli, deE_call, deE_meth, deE_own, deE_blt, deE_bm, deE_isi, deE_fstr, deOe_none, deOe_some, deEs_nil, deEs_cons, deQ_nil, deQ_cons, deL_disp, deL_cat, deL_rep, deL_list, deL_sorted, deL_sli, deL_comp, deL_comp2, deL_ddisp, deL_dcomp, deL_dcomp2, deL_dict, deKVs_nil, deKVs_cons, deIt_seq, deIt_range1, deIt_range2, deIt_range3, deIt_enum, deIt_zip, deIt_items, deTg_name, deTg_tup, deTg_fld, deTg_sub, deS_asg, deS_par, deS_expr, deS_ite, deS_for_, deS_while_, deS_ret, deS_del_, deS_pass_, deS_brk, deS_cnt, deS_never, deSs_nil, deSs_cons, deTgs_nil, deTgs_cons]
def g_f_Field_undo : FnS := ⟨3, .imp, h_f_Field_undo⟩
def h_f_Field_fork : DSs := (cSs_cons (cS_asg (cTg_name 1) (cE_call false 19 [ .a 0 ] (cEs_cons (cE_fld false (cE_var 0) 20) cEs_nil))) (cSs_cons (cS_asg (cTg_fld (cE_var 1) 19) (cE_fld false (cE_var 0) 19)) (cSs_cons (cS_asg (cTg_fld (cE_var 1) 16) (cE_cell (cL_dcomp [ 2 ] (cTg_name 2) (cIt_seq (cE_fld false (cE_var 0) 16)) cQ_nil (cE_var 2) (cE_const ( .bl true ))))) (cSs_cons (cS_asg (cTg_fld (cE_var 1) 15) (cE_cell (cL_list (cE_fld false (cE_var 0) 15)))) (cSs_cons (cS_asg (cTg_fld (cE_var 1) 14) (cE_cell (cL_list (cE_fld false (cE_var 0) 14)))) (cSs_cons (cS_ret (cE_var 1)) cSs_nil))))))
theorem he_f_Field_fork : f_Field_fork.body.den = h_f_Field_fork := by
  simp only [f_Field_fork, h_f_Field_fork, Tgs.len, deE_const, deE_var, deE_tup, deE_fz, deE_cell, deE_bin, deE_neg, deE_not_, deE_and_, deE_or_, deE_cmp, deE_chain, deE_ite, deE_fld, deE_idx, deE_sli, deE_call, deE_meth, deE_own, deE_blt, deE_bm, deE_isi, deE_fstr, deOe_none, deOe_some, deEs_nil, deEs_cons, deQ_nil, deQ_cons, deL_disp, deL_cat, deL_rep, deL_list, deL_sorted, deL_sli, deL_comp, deL_comp2, deL_ddisp, deL_dcomp, deL_dcomp2, deL_dict, deKVs_nil, deKVs_cons, deIt_seq, deIt_range1, deIt_range2, deIt_range3, deIt_enum, deIt_zip, deIt_items, deTg_name, deTg_tup, deTg_fld, deTg_sub, deS_asg, deS_par, deS_expr, deS_ite, deS_for_, deS_while_, deS_ret, deS_del_, deS_pass_, deS_brk, deS_cnt, deS_never, deSs_nil, deSs_cons, deTgs_nil, deTgs_cons]
def g_f_Field_fork : FnS := ⟨3, .imp, h_f_Field_fork⟩
def h_f_Field_outcome : DSs := (cSs_cons (cS_asg (cTg_name 1) (cE_meth false (cE_var 0) 27 [ ] cEs_nil)) (cSs_cons (cS_while_ (cE_cmp .ne (cE_meth false (cE_var 1) 26 [ ] cEs_nil) (cE_fz (cL_disp cEs_nil))) (cSs_cons cS_pass_ cSs_nil)) (cSs_cons (cS_ret (cE_fld false (cE_var 1) 25)) cSs_nil)))
theorem he_f_Field_outcome : f_Field_outcome.body.den = h_f_Field_outcome := by
  simp only [f_Field_outcome, h_f_Field_outcome, Tgs.len, deE_const, deE_var, deE_tup, deE_fz, deE_cell, deE_bin, deE_neg, deE_not_, deE_and_, deE_or_, deE_cmp, deE_chain, deE_ite, deE_fld, deE_idx, deE_sli, deE_call, deE_meth, deE_own, deE_blt, deE_bm, deE_isi, deE_fstr, deOe_none, deOe_some, deEs_nil, deEs_cons, deQ_nil, deQ_cons, deL_disp, deL_cat, deL_rep, deL_list, deL_sorted, deL_sli, deL_comp, deL_comp2, deL_ddisp, deL_dcomp, deL_dcomp2, deL_dict, deKVs_nil, deKVs_cons, deIt_seq, deIt_range1, deIt_range2, deIt_range3, deIt_enum, deIt_zip, deIt_items, deTg_name, deTg_tup, deTg_fld, deTg_sub, deS_asg, deS_par, deS_expr, deS_ite, deS_for_, deS_while_, deS_ret, deS_del_, deS_pass_, deS_brk, deS_cnt, deS_never, deSs_nil, deSs_cons, deTgs_nil, deTgs_cons]
def g_f_Field_outcome : FnS := ⟨2, .pure, h_f_Field_outcome⟩
def h_f_Field_never : DSs := (cSs_cons (cS_asg (cTg_name 1) (cE_meth false (cE_var 0) 28 [ ] cEs_nil)) (cSs_cons (cS_ret (cE_fz (cL_comp [ 2 ] (cTg_name 2) (cIt_seq (cE_meth false (cE_fld false (cE_var 0) 19) 18 [ ] cEs_nil)) (cQ_cons (cE_cmp .nin (cE_var 2) (cE_var 1)) cQ_nil) (cE_var 2)))) cSs_nil))
theorem he_f_Field_never : f_Field_never.body.den = h_f_Field_never := by
  simp only [f_Field_never, h_f_Field_never, Tgs.len, deE_const, deE_var, deE_tup, deE_fz, deE_cell, deE_bin, deE_neg, deE_not_, deE_and_, deE_or_, deE_cmp, deE_chain, deE_ite, deE_fld, deE_idx, deE_sli, deE_call, deE_meth, deE_own, deE_blt, deE_bm, deE_isi, deE_fstr, deOe_none, deOe_some, deEs_nil, deEs_cons, deQ_nil, deQ_cons, deL_disp, deL_cat, deL_rep, deL_list, deL_sorted, deL_sli, deL_comp, deL_comp2, deL_ddisp, deL_dcomp, deL_dcomp2, deL_dict, deKVs_nil, deKVs_cons, deIt_seq, deIt_range1, deIt_range2, deIt_range3, deIt_enum, deIt_zip, deIt_items, deTg_name, deTg_tup, deTg_fld, deTg_sub, deS_asg, deS_par, deS_expr, deS_ite, deS_for_, deS_while_, deS_ret, deS_del_, deS_pass_, deS_brk, deS_cnt, deS_never, deSs_nil, deSs_cons, deTgs_nil, deTgs_cons]
def g_f_Field_never : FnS := ⟨3, .pure, h_f_Field_never⟩
def h_f_replayed : DSs := (cSs_cons (cS_asg (cTg_name 2) (cE_call false 19 [ .a 0 ] (cEs_cons (cE_var 0) cEs_nil))) (cSs_cons (cS_for_ (cTg_name 3) (cIt_seq (cE_var 1)) (cSs_cons (cS_ite (cE_cmp .eq (cE_idx (cE_var 3) (cE_const ( .int 0 ))) (cE_const ( .str [ 101 , 110 , 116 , 101 , 114 ] ))) (cSs_cons (cS_expr (cE_meth false (cE_var 2) 29 [ .a 0 ] (cEs_cons (cE_idx (cE_var 3) (cE_const ( .int 1 ))) cEs_nil))) cSs_nil) (cSs_cons (cS_ite (cE_cmp .eq (cE_idx (cE_var 3) (cE_const ( .int 0 ))) (cE_const ( .str [ 115 , 116 , 101 , 112 ] ))) (cSs_cons (cS_expr (cE_meth false (cE_var 2) 26 [ ] cEs_nil)) cSs_nil) (cSs_cons (cS_ite (cE_cmp .eq (cE_idx (cE_var 3) (cE_const ( .int 0 ))) (cE_const ( .str [ 112 , 117 , 116 ] ))) (cSs_cons (cS_expr (cE_meth false (cE_var 2) 30 [ .a 0 ] (cEs_cons (cE_idx (cE_var 3) (cE_const ( .int 1 ))) cEs_nil))) cSs_nil) (cSs_cons (cS_ite (cE_cmp .eq (cE_idx (cE_var 3) (cE_const ( .int 0 ))) (cE_const ( .str [ 108 , 101 , 97 , 118 , 101 ] ))) (cSs_cons (cS_expr (cE_meth false (cE_var 2) 31 [ .a 0 ] (cEs_cons (cE_idx (cE_var 3) (cE_const ( .int 1 ))) cEs_nil))) cSs_nil) (cSs_cons (cS_expr (cE_meth false (cE_var 2) 32 [ .a 0 , .a 1 ] (cEs_cons (cE_idx (cE_var 3) (cE_const ( .int 1 ))) (cEs_cons (cE_idx (cE_var 3) (cE_const ( .int 2 ))) cEs_nil)))) cSs_nil)) cSs_nil)) cSs_nil)) cSs_nil)) cSs_nil)) (cSs_cons (cS_ret (cE_var 2)) cSs_nil)))
theorem he_f_replayed : f_replayed.body.den = h_f_replayed := by
  simp only [f_replayed, h_f_replayed, Tgs.len, deE_const, deE_var, deE_tup, deE_fz, deE_cell, deE_bin, deE_neg, deE_not_, deE_and_, deE_or_, deE_cmp, deE_chain, deE_ite, deE_fld, deE_idx, deE_sli, deE_call, deE_meth, deE_own, deE_blt, deE_bm, deE_isi, deE_fstr, deOe_none, deOe_some, deEs_nil, deEs_cons, deQ_nil, deQ_cons, deL_disp, deL_cat, deL_rep, deL_list, deL_sorted, deL_sli, deL_comp, deL_comp2, deL_ddisp, deL_dcomp, deL_dcomp2, deL_dict, deKVs_nil, deKVs_cons, deIt_seq, deIt_range1, deIt_range2, deIt_range3, deIt_enum, deIt_zip, deIt_items, deTg_name, deTg_tup, deTg_fld, deTg_sub, deS_asg, deS_par, deS_expr, deS_ite, deS_for_, deS_while_, deS_ret, deS_del_, deS_pass_, deS_brk, deS_cnt, deS_never, deSs_nil, deSs_cons, deTgs_nil, deTgs_cons]
def g_f_replayed : FnS := ⟨4, .imp, h_f_replayed⟩
def h_f__law_tape : DSs := (cSs_cons (cS_asg (cTg_name 2) (cE_bin .add (cE_const ( .int 101 )) (cE_bin .mul (cE_var 1) (cE_const ( .int 53 ))))) (cSs_cons (cS_for_ (cTg_name 3) (cIt_seq (cE_var 0)) (cSs_cons (cS_asg (cTg_name 2) (cE_bin .add (cE_bin .mod (cE_blt .int1 (cEs_cons (cE_bin .pow (cE_bin .add (cE_bin .add (cE_bin .mul (cE_var 2) (cE_const ( .int 30029 ))) (cE_bin .mul (cE_var 3) (cE_var 3))) (cE_const ( .int 13 ))) (cE_const ( .int 2 ))) cEs_nil)) (cE_const ( .int 2147483563 ))) (cE_const ( .int 2 )))) cSs_nil)) (cSs_cons (cS_asg (cTg_name 4) (cE_ite (cE_and_ (cE_cmp .lt (cE_var 1) (cE_blt .len (cEs_cons (cE_var 0) cEs_nil))) (cE_cmp .ge (cE_idx (cE_var 0) (cE_var 1)) (cE_bin .pow (cE_const ( .int 10 )) (cE_const ( .int 18 ))))) (cE_bin .sub (cE_idx (cE_var 0) (cE_var 1)) (cE_bin .pow (cE_const ( .int 10 )) (cE_const ( .int 18 )))) (cE_const ( .int 0 )))) (cSs_cons (cS_ret (cE_cell (cL_ddisp (cKVs_cons (cE_const ( .str [ 100 , 105 , 103 , 105 , 116 , 115 ] )) (cE_var 4) (cKVs_cons (cE_const ( .str [ 109 , 105 , 120 , 101 , 100 ] )) (cE_var 2) cKVs_nil))))) cSs_nil))))
theorem he_f__law_tape : f__law_tape.body.den = h_f__law_tape := by
  simp only [f__law_tape, h_f__law_tape, Tgs.len, deE_const, deE_var, deE_tup, deE_fz, deE_cell, deE_bin, deE_neg, deE_not_, deE_and_, deE_or_, deE_cmp, deE_chain, deE_ite, deE_fld, deE_idx, deE_sli, deE_call, deE_meth, deE_own, deE_blt, deE_bm, deE_isi, deE_fstr, deOe_none, deOe_some, deEs_nil, deEs_cons, deQ_nil, deQ_cons, deL_disp, deL_cat, deL_rep, deL_list, deL_sorted, deL_sli, deL_comp, deL_comp2, deL_ddisp, deL_dcomp, deL_dcomp2, deL_dict, deKVs_nil, deKVs_cons, deIt_seq, deIt_range1, deIt_range2, deIt_range3, deIt_enum, deIt_zip, deIt_items, deTg_name, deTg_tup, deTg_fld, deTg_sub, deS_asg, deS_par, deS_expr, deS_ite, deS_for_, deS_while_, deS_ret, deS_del_, deS_pass_, deS_brk, deS_cnt, deS_never, deSs_nil, deSs_cons, deTgs_nil, deTgs_cons]
def g_f__law_tape : FnS := ⟨5, .imp, h_f__law_tape⟩
def h_f__law_pick : DSs := (cSs_cons (cS_ite (cE_cmp .ge (cE_idx (cE_var 0) (cE_const ( .str [ 100 , 105 , 103 , 105 , 116 , 115 ] ))) (cE_var 1)) (cSs_cons (cS_asg (cTg_name 2) (cE_bin .mod (cE_blt .int1 (cEs_cons (cE_idx (cE_var 0) (cE_const ( .str [ 100 , 105 , 103 , 105 , 116 , 115 ] ))) cEs_nil)) (cE_var 1))) (cSs_cons (cS_asg (cTg_sub (cE_var 0) (cE_const ( .str [ 100 , 105 , 103 , 105 , 116 , 115 ] ))) (cE_bin .fdiv (cE_idx (cE_var 0) (cE_const ( .str [ 100 , 105 , 103 , 105 , 116 , 115 ] ))) (cE_var 1))) (cSs_cons (cS_ret (cE_var 2)) cSs_nil))) cSs_nil) (cSs_cons (cS_asg (cTg_sub (cE_var 0) (cE_const ( .str [ 109 , 105 , 120 , 101 , 100 ] ))) (cE_bin .mod (cE_blt .int1 (cEs_cons (cE_bin .add (cE_bin .mul (cE_idx (cE_var 0) (cE_const ( .str [ 109 , 105 , 120 , 101 , 100 ] ))) (cE_const ( .int 40014 ))) (cE_const ( .int 1031 ))) cEs_nil)) (cE_const ( .int 2147483563 )))) (cSs_cons (cS_asg (cTg_name 3) (cE_bin .mod (cE_blt .int1 (cEs_cons (cE_bin .pow (cE_idx (cE_var 0) (cE_const ( .str [ 109 , 105 , 120 , 101 , 100 ] ))) (cE_const ( .int 2 ))) cEs_nil)) (cE_const ( .int 2147483399 )))) (cSs_cons (cS_ret (cE_bin .mod (cE_blt .int1 (cEs_cons (cE_bin .fdiv (cE_bin .mod (cE_blt .int1 (cEs_cons (cE_bin .pow (cE_var 3) (cE_const ( .int 3 ))) cEs_nil)) (cE_const ( .int 998244353 ))) (cE_const ( .int 13 ))) cEs_nil)) (cE_var 1))) cSs_nil))))
theorem he_f__law_pick : f__law_pick.body.den = h_f__law_pick := by
  simp only [f__law_pick, h_f__law_pick, Tgs.len, deE_const, deE_var, deE_tup, deE_fz, deE_cell, deE_bin, deE_neg, deE_not_, deE_and_, deE_or_, deE_cmp, deE_chain, deE_ite, deE_fld, deE_idx, deE_sli, deE_call, deE_meth, deE_own, deE_blt, deE_bm, deE_isi, deE_fstr, deOe_none, deOe_some, deEs_nil, deEs_cons, deQ_nil, deQ_cons, deL_disp, deL_cat, deL_rep, deL_list, deL_sorted, deL_sli, deL_comp, deL_comp2, deL_ddisp, deL_dcomp, deL_dcomp2, deL_dict, deKVs_nil, deKVs_cons, deIt_seq, deIt_range1, deIt_range2, deIt_range3, deIt_enum, deIt_zip, deIt_items, deTg_name, deTg_tup, deTg_fld, deTg_sub, deS_asg, deS_par, deS_expr, deS_ite, deS_for_, deS_while_, deS_ret, deS_del_, deS_pass_, deS_brk, deS_cnt, deS_never, deSs_nil, deSs_cons, deTgs_nil, deTgs_cons]
def g_f__law_pick : FnS := ⟨4, .imp, h_f__law_pick⟩
def h_f__law_row_right : DSs := (cSs_cons (cS_asg (cTg_name 1) (cE_call false 3 [ .a 0 , .d ( .tup [ ] ) , .a 1 ] (cEs_cons (cE_const ( .int 1 )) (cEs_cons (cE_fz (cL_disp (cEs_cons (cE_tup (cEs_cons (cE_const ( .int 0 )) (cEs_cons (cE_const ( .int 0 )) cEs_nil))) cEs_nil))) cEs_nil)))) (cSs_cons (cS_asg (cTg_name 2) (cE_call false 19 [ .a 0 ] (cEs_cons (cE_call false 12 [ .a 0 , .d ( .bl false ) ] (cEs_cons (cE_call false 9 [ .a 0 , .a 1 ] (cEs_cons (cE_var 1) (cEs_cons (cE_fz (cL_cat (cE_fz (cL_disp (cEs_cons (cE_tup (cEs_cons (cE_tup (cEs_cons (cE_const ( .int 1 )) (cEs_cons (cE_const ( .bl true )) cEs_nil))) cEs_nil)) cEs_nil))) (cE_fz (cL_rep (cE_fz (cL_disp (cEs_cons (cE_tup (cEs_cons (cE_tup (cEs_cons (cE_const ( .int 1 )) (cEs_cons (cE_const ( .bl false )) cEs_nil))) cEs_nil)) cEs_nil))) (cE_var 0))))) cEs_nil))) cEs_nil)) cEs_nil))) (cSs_cons (cS_asg (cTg_name 3) (cE_fz (cL_disp (cEs_cons (cE_meth false (cE_var 2) 26 [ ] cEs_nil) (cEs_cons (cE_meth false (cE_var 2) 31 [ .a 0 ] (cEs_cons (cE_tup (cEs_cons (cE_const ( .int 0 )) (cEs_cons (cE_const ( .int 0 )) cEs_nil))) cEs_nil)) (cEs_cons (cE_fld false (cE_var 2) 25) (cEs_cons (cE_meth false (cE_var 2) 23 [ ] cEs_nil) (cEs_cons (cE_meth false (cE_var 2) 29 [ .a 0 ] (cEs_cons (cE_tup (cEs_cons (cE_const ( .int 2 )) (cEs_cons (cE_const ( .int 0 )) cEs_nil))) cEs_nil)) (cEs_cons (cE_meth false (cE_var 2) 31 [ .a 0 ] (cEs_cons (cE_tup (cEs_cons (cE_const ( .int 1 )) (cEs_cons (cE_const ( .int 0 )) cEs_nil))) cEs_nil)) (cEs_cons (cE_meth false (cE_var 2) 23 [ ] cEs_nil) cEs_nil)))))))))) (cSs_cons (cS_ite (cE_cmp .ne (cE_var 3) (cE_fz (cL_disp (cEs_cons (cE_fz (cL_disp (cEs_cons (cE_tup (cEs_cons (cE_const ( .int 1 )) (cEs_cons (cE_const ( .int 0 )) cEs_nil))) cEs_nil))) (cEs_cons (cE_const .non) (cEs_cons (cE_fz (cL_disp (cEs_cons (cE_tup (cEs_cons (cE_const ( .int 1 )) (cEs_cons (cE_const ( .int 0 )) cEs_nil))) cEs_nil))) (cEs_cons (cE_fz (cL_disp (cEs_cons (cE_tup (cEs_cons (cE_const ( .int 0 )) (cEs_cons (cE_const ( .int 0 )) cEs_nil))) (cEs_cons (cE_tup (cEs_cons (cE_const ( .int 2 )) (cEs_cons (cE_const ( .int 0 )) cEs_nil))) cEs_nil)))) (cEs_cons (cE_const .non) (cEs_cons (cE_const .non) (cEs_cons (cE_fz (cL_disp (cEs_cons (cE_tup (cEs_cons (cE_const ( .int 1 )) (cEs_cons (cE_const ( .int 0 )) cEs_nil))) (cEs_cons (cE_tup (cEs_cons (cE_const ( .int 3 )) (cEs_cons (cE_const ( .int 0 )) cEs_nil))) cEs_nil)))) cEs_nil)))))))))) (cSs_cons (cS_ret (cE_const ( .bl false ))) cSs_nil) cSs_nil) (cSs_cons (cS_ite (cE_or_ (cE_cmp .ne (cE_meth false (cE_var 2) 28 [ ] cEs_nil) (cE_fz (cL_comp [ 4 ] (cTg_name 4) (cIt_range1 (cE_bin .add (cE_var 0) (cE_const ( .int 1 )))) cQ_nil (cE_tup (cEs_cons (cE_var 4) (cEs_cons (cE_const ( .int 0 )) cEs_nil)))))) (cE_or_ (cE_cmp .isn (cE_meth false (cE_var 2) 32 [ .a 0 , .a 1 ] (cEs_cons (cE_tup (cEs_cons (cE_const ( .int 0 )) (cEs_cons (cE_const ( .int 0 )) cEs_nil))) (cEs_cons (cE_const ( .int 2 )) cEs_nil))) (cE_const .non)) (cE_cmp .ne (cE_meth false (cE_var 2) 36 [ ] cEs_nil) (cE_fz (cL_disp (cEs_cons (cE_tup (cEs_cons (cE_const ( .int 0 )) (cEs_cons (cE_const ( .int 0 )) cEs_nil))) cEs_nil)))))) (cSs_cons (cS_ret (cE_const ( .bl false ))) cSs_nil) cSs_nil) (cSs_cons (cS_ite (cE_or_ (cE_cmp .ne (cE_meth false (cE_fld false (cE_var 2) 34) 17 [ .a 0 ] (cEs_cons (cE_tup (cEs_cons (cE_const ( .int 0 )) (cEs_cons (cE_const ( .int 0 )) cEs_nil))) cEs_nil)) (cE_tup (cEs_cons (cE_const ( .int 2 )) (cEs_cons (cE_const ( .bl true )) cEs_nil)))) (cE_or_ (cE_cmp .isn (cE_meth false (cE_var 2) 30 [ .a 0 ] (cEs_cons (cE_tup (cEs_cons (cE_const ( .int 0 )) (cEs_cons (cE_const ( .int 0 )) cEs_nil))) cEs_nil)) (cE_const .non)) (cE_cmp .ne (cE_fld false (cE_var 2) 25) (cE_fz (cL_disp (cEs_cons (cE_tup (cEs_cons (cE_const ( .int 0 )) (cEs_cons (cE_const ( .int 0 )) cEs_nil))) (cEs_cons (cE_tup (cEs_cons (cE_const ( .int 2 )) (cEs_cons (cE_const ( .int 0 )) cEs_nil))) cEs_nil))))))) (cSs_cons (cS_ret (cE_const ( .bl false ))) cSs_nil) cSs_nil) (cSs_cons (cS_asg (cTg_name 3) (cE_fz (cL_disp (cEs_cons (cE_meth false (cE_var 2) 35 [ ] cEs_nil) (cEs_cons (cE_meth false (cE_var 2) 35 [ ] cEs_nil) (cEs_cons (cE_meth false (cE_var 2) 35 [ ] cEs_nil) cEs_nil)))))) (cSs_cons (cS_ite (cE_or_ (cE_cmp .ne (cE_var 3) (cE_fz (cL_disp (cEs_cons (cE_tup (cEs_cons (cE_const ( .str [ 112 , 117 , 116 ] )) (cEs_cons (cE_tup (cEs_cons (cE_const ( .int 0 )) (cEs_cons (cE_const ( .int 0 )) cEs_nil))) cEs_nil))) (cEs_cons (cE_tup (cEs_cons (cE_const ( .str [ 110 , 101 , 101 , 100 ] )) (cEs_cons (cE_tup (cEs_cons (cE_const ( .int 0 )) (cEs_cons (cE_const ( .int 0 )) cEs_nil))) (cEs_cons (cE_const ( .int 2 )) cEs_nil)))) (cEs_cons (cE_tup (cEs_cons (cE_const ( .str [ 108 , 101 , 97 , 118 , 101 ] )) (cEs_cons (cE_tup (cEs_cons (cE_const ( .int 1 )) (cEs_cons (cE_const ( .int 0 )) cEs_nil))) cEs_nil))) cEs_nil)))))) (cE_cmp .ne (cE_meth false (cE_fld false (cE_var 2) 34) 17 [ .a 0 ] (cEs_cons (cE_tup (cEs_cons (cE_const ( .int 0 )) (cEs_cons (cE_const ( .int 0 )) cEs_nil))) cEs_nil)) (cE_tup (cEs_cons (cE_const ( .int 1 )) (cEs_cons (cE_const ( .bl true )) cEs_nil))))) (cSs_cons (cS_ret (cE_const ( .bl false ))) cSs_nil) cSs_nil) (cSs_cons (cS_ret (cE_and_ (cE_cmp .eq (cE_fld false (cE_var 2) 25) (cE_fz (cL_disp (cEs_cons (cE_tup (cEs_cons (cE_const ( .int 1 )) (cEs_cons (cE_const ( .int 0 )) cEs_nil))) (cEs_cons (cE_tup (cEs_cons (cE_const ( .int 2 )) (cEs_cons (cE_const ( .int 0 )) cEs_nil))) cEs_nil))))) (cE_cmp .eq (cE_fld false (cE_var 2) 33) (cE_fz (cL_disp (cEs_cons (cE_tup (cEs_cons (cE_const ( .str [ 115 , 116 , 101 , 112 ] )) cEs_nil)) (cEs_cons (cE_tup (cEs_cons (cE_const ( .str [ 108 , 101 , 97 , 118 , 101 ] )) (cEs_cons (cE_tup (cEs_cons (cE_const ( .int 0 )) (cEs_cons (cE_const ( .int 0 )) cEs_nil))) cEs_nil))) (cEs_cons (cE_tup (cEs_cons (cE_const ( .str [ 101 , 110 , 116 , 101 , 114 ] )) (cEs_cons (cE_tup (cEs_cons (cE_const ( .int 2 )) (cEs_cons (cE_const ( .int 0 )) cEs_nil))) cEs_nil))) cEs_nil)))))))) cSs_nil)))))))))
theorem he_f__law_row_right : f__law_row_right.body.den = h_f__law_row_right := by
  simp only [f__law_row_right, h_f__law_row_right, Tgs.len, deE_const, deE_var, deE_tup, deE_fz, deE_cell, deE_bin, deE_neg, deE_not_, deE_and_, deE_or_, deE_cmp, deE_chain, deE_ite, deE_fld, deE_idx, deE_sli, deE_call, deE_meth, deE_own, deE_blt, deE_bm, deE_isi, deE_fstr, deOe_none, deOe_some, deEs_nil, deEs_cons, deQ_nil, deQ_cons, deL_disp, deL_cat, deL_rep, deL_list, deL_sorted, deL_sli, deL_comp, deL_comp2, deL_ddisp, deL_dcomp, deL_dcomp2, deL_dict, deKVs_nil, deKVs_cons, deIt_seq, deIt_range1, deIt_range2, deIt_range3, deIt_enum, deIt_zip, deIt_items, deTg_name, deTg_tup, deTg_fld, deTg_sub, deS_asg, deS_par, deS_expr, deS_ite, deS_for_, deS_while_, deS_ret, deS_del_, deS_pass_, deS_brk, deS_cnt, deS_never, deSs_nil, deSs_cons, deTgs_nil, deTgs_cons]
def g_f__law_row_right : FnS := ⟨5, .pure, h_f__law_row_right⟩
def h_f__law_ring_right : DSs := (cSs_cons (cS_asg (cTg_name 1) (cE_call false 3 [ .a 0 , .d ( .tup [ ] ) , .a 1 ] (cEs_cons (cE_const ( .int 1 )) (cEs_cons (cE_fz (cL_disp (cEs_cons (cE_tup (cEs_cons (cE_const ( .int 0 )) (cEs_cons (cE_const ( .int 0 )) cEs_nil))) cEs_nil))) cEs_nil)))) (cSs_cons (cS_asg (cTg_name 2) (cE_call false 19 [ .a 0 ] (cEs_cons (cE_call false 12 [ .a 0 , .a 1 ] (cEs_cons (cE_call false 9 [ .a 0 , .a 1 ] (cEs_cons (cE_var 1) (cEs_cons (cE_fz (cL_comp [ 4 ] (cTg_name 4) (cIt_range1 (cE_bin .mul (cE_const ( .int 2 )) (cE_var 0))) cQ_nil (cE_tup (cEs_cons (cE_tup (cEs_cons (cE_const ( .int 2 )) (cEs_cons (cE_cmp .eq (cE_bin .mod (cE_var 4) (cE_const ( .int 2 ))) (cE_const ( .int 0 ))) cEs_nil))) cEs_nil)))) cEs_nil))) (cEs_cons (cE_const ( .bl true )) cEs_nil))) cEs_nil))) (cSs_cons (cS_ite (cE_or_ (cE_cmp .ne (cE_meth false (cE_var 2) 23 [ ] cEs_nil) (cE_fz (cL_comp [ 4 ] (cTg_name 4) (cIt_range3 (cE_const ( .int 1 )) (cE_bin .mul (cE_const ( .int 2 )) (cE_var 0)) (cE_const ( .int 2 ))) cQ_nil (cE_tup (cEs_cons (cE_var 4) (cEs_cons (cE_const ( .int 0 )) cEs_nil)))))) (cE_cmp .ne (cE_meth false (cE_var 2) 36 [ ] cEs_nil) (cE_fz (cL_disp cEs_nil)))) (cSs_cons (cS_ret (cE_const ( .bl false ))) cSs_nil) cSs_nil) (cSs_cons (cS_expr (cE_meth false (cE_var 2) 31 [ .a 0 ] (cEs_cons (cE_tup (cEs_cons (cE_const ( .int 0 )) (cEs_cons (cE_const ( .int 0 )) cEs_nil))) cEs_nil))) (cSs_cons (cS_ite (cE_cmp .ne (cE_meth false (cE_var 2) 36 [ ] cEs_nil) (cE_fz (cL_disp (cEs_cons (cE_tup (cEs_cons (cE_const ( .int 0 )) (cEs_cons (cE_const ( .int 0 )) cEs_nil))) (cEs_cons (cE_tup (cEs_cons (cE_const ( .int 1 )) (cEs_cons (cE_const ( .int 0 )) cEs_nil))) (cEs_cons (cE_tup (cEs_cons (cE_bin .sub (cE_bin .mul (cE_const ( .int 2 )) (cE_var 0)) (cE_const ( .int 1 ))) (cEs_cons (cE_const ( .int 0 )) cEs_nil))) cEs_nil)))))) (cSs_cons (cS_ret (cE_const ( .bl false ))) cSs_nil) cSs_nil) (cSs_cons (cS_for_ (cTg_name 3) (cIt_range1 (cE_const ( .int 50 ))) (cSs_cons (cS_expr (cE_meth false (cE_var 2) 30 [ .a 0 ] (cEs_cons (cE_tup (cEs_cons (cE_const ( .int 0 )) (cEs_cons (cE_const ( .int 0 )) cEs_nil))) cEs_nil))) (cSs_cons (cS_expr (cE_meth false (cE_var 2) 31 [ .a 0 ] (cEs_cons (cE_tup (cEs_cons (cE_const ( .int 0 )) (cEs_cons (cE_const ( .int 0 )) cEs_nil))) cEs_nil))) cSs_nil))) (cSs_cons (cS_for_ (cTg_name 3) (cIt_range1 (cE_const ( .int 100 ))) (cSs_cons (cS_expr (cE_meth false (cE_var 2) 35 [ ] cEs_nil)) cSs_nil)) (cSs_cons (cS_expr (cE_meth false (cE_var 2) 32 [ .a 0 , .a 1 ] (cEs_cons (cE_tup (cEs_cons (cE_const ( .int 1 )) (cEs_cons (cE_const ( .int 0 )) cEs_nil))) (cEs_cons (cE_const ( .int 1 )) cEs_nil)))) (cSs_cons (cS_ite (cE_cmp .ne (cE_meth false (cE_var 2) 36 [ ] cEs_nil) (cE_fz (cL_disp (cEs_cons (cE_tup (cEs_cons (cE_const ( .int 0 )) (cEs_cons (cE_const ( .int 0 )) cEs_nil))) (cEs_cons (cE_tup (cEs_cons (cE_bin .sub (cE_bin .mul (cE_const ( .int 2 )) (cE_var 0)) (cE_const ( .int 1 ))) (cEs_cons (cE_const ( .int 0 )) cEs_nil))) cEs_nil))))) (cSs_cons (cS_ret (cE_const ( .bl false ))) cSs_nil) cSs_nil) (cSs_cons (cS_expr (cE_meth false (cE_var 2) 32 [ .a 0 , .a 1 ] (cEs_cons (cE_tup (cEs_cons (cE_const ( .int 0 )) (cEs_cons (cE_const ( .int 0 )) cEs_nil))) (cEs_cons (cE_const ( .int 1 )) cEs_nil)))) (cSs_cons (cS_ret (cE_and_ (cE_cmp .eq (cE_meth false (cE_var 2) 36 [ ] cEs_nil) (cE_fz (cL_disp cEs_nil))) (cE_and_ (cE_cmp .eq (cE_blt .len (cEs_cons (cE_fld false (cE_var 2) 33) cEs_nil)) (cE_const ( .int 3 ))) (cE_cmp .eq (cE_meth false (cE_var 2) 28 [ ] cEs_nil) (cE_fz (cL_comp [ 4 ] (cTg_name 4) (cIt_range1 (cE_bin .mul (cE_const ( .int 2 )) (cE_var 0))) cQ_nil (cE_tup (cEs_cons (cE_var 4) (cEs_cons (cE_const ( .int 0 )) cEs_nil))))))))) cSs_nil)))))))))))
theorem he_f__law_ring_right : f__law_ring_right.body.den = h_f__law_ring_right := by
  simp only [f__law_ring_right, h_f__law_ring_right, Tgs.len, deE_const, deE_var, deE_tup, deE_fz, deE_cell, deE_bin, deE_neg, deE_not_, deE_and_, deE_or_, deE_cmp, deE_chain, deE_ite, deE_fld, deE_idx, deE_sli, deE_call, deE_meth, deE_own, deE_blt, deE_bm, deE_isi, deE_fstr, deOe_none, deOe_some, deEs_nil, deEs_cons, deQ_nil, deQ_cons, deL_disp, deL_cat, deL_rep, deL_list, deL_sorted, deL_sli, deL_comp, deL_comp2, deL_ddisp, deL_dcomp, deL_dcomp2, deL_dict, deKVs_nil, deKVs_cons, deIt_seq, deIt_range1, deIt_range2, deIt_range3, deIt_enum, deIt_zip, deIt_items, deTg_name, deTg_tup, deTg_fld, deTg_sub, deS_asg, deS_par, deS_expr, deS_ite, deS_for_, deS_while_, deS_ret, deS_del_, deS_pass_, deS_brk, deS_cnt, deS_never, deSs_nil, deSs_cons, deTgs_nil, deTgs_cons]
def g_f__law_ring_right : FnS := ⟨5, .pure, h_f__law_ring_right⟩
def h_f__law_replayed_right : DSs := (cSs_cons (cS_asg (cTg_name 1) (cE_call false 12 [ .a 0 , .d ( .bl false ) ] (cEs_cons (cE_call false 9 [ .a 0 , .a 1 ] (cEs_cons (cE_call false 3 [ .a 0 , .d ( .tup [ ] ) , .a 1 ] (cEs_cons (cE_const ( .int 1 )) (cEs_cons (cE_fz (cL_disp (cEs_cons (cE_tup (cEs_cons (cE_const ( .int 0 )) (cEs_cons (cE_const ( .int 0 )) cEs_nil))) cEs_nil))) cEs_nil))) (cEs_cons (cE_fz (cL_cat (cE_fz (cL_disp (cEs_cons (cE_tup (cEs_cons (cE_tup (cEs_cons (cE_const ( .int 1 )) (cEs_cons (cE_const ( .bl true )) cEs_nil))) cEs_nil)) cEs_nil))) (cE_fz (cL_rep (cE_fz (cL_disp (cEs_cons (cE_tup (cEs_cons (cE_tup (cEs_cons (cE_const ( .int 1 )) (cEs_cons (cE_const ( .bl false )) cEs_nil))) cEs_nil)) cEs_nil))) (cE_const ( .int 3 )))))) cEs_nil))) cEs_nil))) (cSs_cons (cS_asg (cTg_name 2) (cE_fz (cL_cat (cE_fz (cL_rep (cE_fz (cL_disp (cEs_cons (cE_tup (cEs_cons (cE_const ( .str [ 108 , 101 , 97 , 118 , 101 ] )) (cEs_cons (cE_tup (cEs_cons (cE_const ( .int 0 )) (cEs_cons (cE_const ( .int 0 )) cEs_nil))) cEs_nil))) (cEs_cons (cE_tup (cEs_cons (cE_const ( .str [ 112 , 117 , 116 ] )) (cEs_cons (cE_tup (cEs_cons (cE_const ( .int 0 )) (cEs_cons (cE_const ( .int 0 )) cEs_nil))) cEs_nil))) cEs_nil)))) (cE_var 0))) (cE_fz (cL_rep (cE_fz (cL_disp (cEs_cons (cE_tup (cEs_cons (cE_const ( .str [ 115 , 116 , 101 , 112 ] )) cEs_nil)) cEs_nil))) (cE_var 0)))))) (cSs_cons (cS_asg (cTg_name 3) (cE_call false 19 [ .a 0 ] (cEs_cons (cE_call false 12 [ .a 0 , .d ( .bl false ) ] (cEs_cons (cE_call false 9 [ .a 0 , .a 1 ] (cEs_cons (cE_call false 3 [ .a 0 , .d ( .tup [ ] ) , .a 1 ] (cEs_cons (cE_const ( .int 1 )) (cEs_cons (cE_fz (cL_disp (cEs_cons (cE_tup (cEs_cons (cE_const ( .int 0 )) (cEs_cons (cE_const ( .int 0 )) cEs_nil))) cEs_nil))) cEs_nil))) (cEs_cons (cE_fz (cL_rep (cE_fz (cL_disp (cEs_cons (cE_tup (cEs_cons (cE_tup (cEs_cons (cE_const ( .int 1 )) (cEs_cons (cE_const ( .bl false )) cEs_nil))) cEs_nil)) cEs_nil))) (cE_const ( .int 3 )))) cEs_nil))) cEs_nil)) cEs_nil))) (cSs_cons (cS_expr (cE_meth false (cE_var 3) 30 [ .a 0 ] (cEs_cons (cE_tup (cEs_cons (cE_const ( .int 0 )) (cEs_cons (cE_const ( .int 0 )) cEs_nil))) cEs_nil))) (cSs_cons (cS_asg (cTg_name 4) (cE_meth false (cE_var 3) 28 [ ] cEs_nil)) (cSs_cons (cS_expr (cE_meth false (cE_var 3) 35 [ ] cEs_nil)) (cSs_cons (cS_expr (cE_meth false (cE_var 3) 32 [ .a 0 , .a 1 ] (cEs_cons (cE_tup (cEs_cons (cE_const ( .int 0 )) (cEs_cons (cE_const ( .int 0 )) cEs_nil))) (cEs_cons (cE_const ( .int 9 )) cEs_nil)))) (cSs_cons (cS_ite (cE_cmp .ne (cE_fz (cL_disp (cEs_cons (cE_var 4) (cEs_cons (cE_meth false (cE_var 3) 28 [ ] cEs_nil) (cEs_cons (cE_meth false (cE_var 3) 36 [ ] cEs_nil) (cEs_cons (cE_meth false (cE_var 3) 23 [ ] cEs_nil) cEs_nil)))))) (cE_fz (cL_disp (cEs_cons (cE_meth false (cE_fld false (cE_var 3) 34) 18 [ ] cEs_nil) (cEs_cons (cE_fz (cL_disp cEs_nil)) (cEs_cons (cE_meth false (cE_fld false (cE_var 3) 34) 18 [ ] cEs_nil) (cEs_cons (cE_fz (cL_disp cEs_nil)) cEs_nil))))))) (cSs_cons (cS_ret (cE_const ( .bl false ))) cSs_nil) cSs_nil) (cSs_cons (cS_asg (cTg_name 5) (cE_call false 34 [ .a 0 , .a 1 ] (cEs_cons (cE_var 1) (cEs_cons (cE_var 2) cEs_nil)))) (cSs_cons (cS_ret (cE_and_ (cE_cmp .eq (cE_fld false (cE_var 5) 33) (cE_var 2)) (cE_and_ (cE_cmp .eq (cE_fld false (cE_var 5) 25) (cE_fz (cL_comp [ 6 ] (cTg_name 6) (cIt_range1 (cE_blt .min2 (cEs_cons (cE_const ( .int 4 )) (cEs_cons (cE_bin .add (cE_var 0) (cE_const ( .int 1 ))) cEs_nil)))) cQ_nil (cE_tup (cEs_cons (cE_var 6) (cEs_cons (cE_const ( .int 0 )) cEs_nil)))))) (cE_cmp .eq (cE_meth false (cE_var 5) 35 [ ] cEs_nil) (cE_tup (cEs_cons (cE_const ( .str [ 115 , 116 , 101 , 112 ] )) cEs_nil)))))) cSs_nil))))))))))
theorem he_f__law_replayed_right : f__law_replayed_right.body.den = h_f__law_replayed_right := by
  simp only [f__law_replayed_right, h_f__law_replayed_right, Tgs.len, deE_const, deE_var, deE_tup, deE_fz, deE_cell, deE_bin, deE_neg, deE_not_, deE_and_, deE_or_, deE_cmp, deE_chain, deE_ite, deE_fld, deE_idx, deE_sli, deE_call, deE_meth, deE_own, deE_blt, deE_bm, deE_isi, deE_fstr, deOe_none, deOe_some, deEs_nil, deEs_cons, deQ_nil, deQ_cons, deL_disp, deL_cat, deL_rep, deL_list, deL_sorted, deL_sli, deL_comp, deL_comp2, deL_ddisp, deL_dcomp, deL_dcomp2, deL_dict, deKVs_nil, deKVs_cons, deIt_seq, deIt_range1, deIt_range2, deIt_range3, deIt_enum, deIt_zip, deIt_items, deTg_name, deTg_tup, deTg_fld, deTg_sub, deS_asg, deS_par, deS_expr, deS_ite, deS_for_, deS_while_, deS_ret, deS_del_, deS_pass_, deS_brk, deS_cnt, deS_never, deSs_nil, deSs_cons, deTgs_nil, deTgs_cons]
def g_f__law_replayed_right : FnS := ⟨7, .pure, h_f__law_replayed_right⟩
def h_f_law : DSs := (cSs_cons (cS_for_ (cTg_name 1) (cIt_range1 (cE_blt .max2 (cEs_cons (cE_const ( .int 1 )) (cEs_cons (cE_blt .min2 (cEs_cons (cE_const ( .int 3 )) (cEs_cons (cE_blt .len (cEs_cons (cE_var 0) cEs_nil)) cEs_nil))) cEs_nil)))) (cSs_cons (cS_asg (cTg_name 2) (cE_call false 35 [ .a 0 , .a 1 ] (cEs_cons (cE_var 0) (cEs_cons (cE_var 1) cEs_nil)))) (cSs_cons (cS_ite (cE_or_ (cE_not_ (cE_call false 37 [ .a 0 ] (cEs_cons (cE_bin .add (cE_const ( .int 3 )) (cE_call false 36 [ .a 0 , .a 1 ] (cEs_cons (cE_var 2) (cEs_cons (cE_const ( .int 12 )) cEs_nil)))) cEs_nil))) (cE_or_ (cE_not_ (cE_call false 38 [ .a 0 ] (cEs_cons (cE_bin .add (cE_const ( .int 2 )) (cE_call false 36 [ .a 0 , .a 1 ] (cEs_cons (cE_var 2) (cEs_cons (cE_const ( .int 6 )) cEs_nil)))) cEs_nil))) (cE_not_ (cE_call false 39 [ .a 0 ] (cEs_cons (cE_bin .add (cE_const ( .int 1 )) (cE_call false 36 [ .a 0 , .a 1 ] (cEs_cons (cE_var 2) (cEs_cons (cE_const ( .int 30 )) cEs_nil)))) cEs_nil))))) (cSs_cons (cS_ret (cE_const ( .bl false ))) cSs_nil) cSs_nil) cSs_nil))) (cSs_cons (cS_asg (cTg_name 3) (cE_call false 19 [ .a 0 ] (cEs_cons (cE_call false 12 [ .a 0 , .d ( .bl false ) ] (cEs_cons (cE_call false 9 [ .a 0 , .a 1 ] (cEs_cons (cE_call false 3 [ .a 0 , .d ( .tup [ ] ) , .d ( .tup [ ] ) ] (cEs_cons (cE_const ( .int 2 )) cEs_nil)) (cEs_cons (cE_fz (cL_disp (cEs_cons (cE_tup (cEs_cons (cE_tup (cEs_cons (cE_const ( .int 0 )) (cEs_cons (cE_const ( .bl false )) cEs_nil))) (cEs_cons (cE_tup (cEs_cons (cE_const ( .int 1 )) (cEs_cons (cE_const ( .bl false )) cEs_nil))) cEs_nil))) (cEs_cons (cE_tup (cEs_cons (cE_tup (cEs_cons (cE_const ( .int 0 )) (cEs_cons (cE_const ( .bl true )) cEs_nil))) (cEs_cons (cE_tup (cEs_cons (cE_const ( .int 9 )) (cEs_cons (cE_const ( .bl false )) cEs_nil))) cEs_nil))) cEs_nil)))) cEs_nil))) cEs_nil)) cEs_nil))) (cSs_cons (cS_ret (cE_cmp .eq (cE_fz (cL_disp (cEs_cons (cE_fld false (cE_var 3) 25) (cEs_cons (cE_meth false (cE_var 3) 23 [ ] cEs_nil) (cEs_cons (cE_meth false (cE_var 3) 36 [ ] cEs_nil) (cEs_cons (cE_meth false (cE_var 3) 26 [ ] cEs_nil) cEs_nil)))))) (cE_fz (cL_disp (cEs_cons (cE_fz (cL_disp (cEs_cons (cE_tup (cEs_cons (cE_const ( .int 1 )) (cEs_cons (cE_const ( .int 0 )) cEs_nil))) cEs_nil))) (cEs_cons (cE_fz (cL_disp (cEs_cons (cE_tup (cEs_cons (cE_const ( .int 0 )) (cEs_cons (cE_const ( .int 0 )) cEs_nil))) cEs_nil))) (cEs_cons (cE_fz (cL_disp (cEs_cons (cE_tup (cEs_cons (cE_const ( .int 0 )) (cEs_cons (cE_const ( .int 1 )) cEs_nil))) (cEs_cons (cE_tup (cEs_cons (cE_const ( .int 1 )) (cEs_cons (cE_const ( .int 1 )) cEs_nil))) cEs_nil)))) (cEs_cons (cE_fz (cL_disp (cEs_cons (cE_tup (cEs_cons (cE_const ( .int 0 )) (cEs_cons (cE_const ( .int 0 )) cEs_nil))) cEs_nil))) cEs_nil)))))))) cSs_nil)))
theorem he_f_law : f_law.body.den = h_f_law := by
  simp only [f_law, h_f_law, Tgs.len, deE_const, deE_var, deE_tup, deE_fz, deE_cell, deE_bin, deE_neg, deE_not_, deE_and_, deE_or_, deE_cmp, deE_chain, deE_ite, deE_fld, deE_idx, deE_sli, deE_call, deE_meth, deE_own, deE_blt, deE_bm, deE_isi, deE_fstr, deOe_none, deOe_some, deEs_nil, deEs_cons, deQ_nil, deQ_cons, deL_disp, deL_cat, deL_rep, deL_list, deL_sorted, deL_sli, deL_comp, deL_comp2, deL_ddisp, deL_dcomp, deL_dcomp2, deL_dict, deKVs_nil, deKVs_cons, deIt_seq, deIt_range1, deIt_range2, deIt_range3, deIt_enum, deIt_zip, deIt_items, deTg_name, deTg_tup, deTg_fld, deTg_sub, deS_asg, deS_par, deS_expr, deS_ite, deS_for_, deS_while_, deS_ret, deS_del_, deS_pass_, deS_brk, deS_cnt, deS_never, deSs_nil, deSs_cons, deTgs_nil, deTgs_cons]
def g_f_law : FnS := ⟨4, .pure, h_f_law⟩
def tblS : List FnS := [g_f_is_whole, g_f_is_pair, g_f_are_pairs, g_f_Frame___init__, g_f_Frame_beside, g_f_Frame_onward, g_f_Frame_back, g_f_is_cell, g_f_is_column, g_f_Stretch___init__, g_f_Stretch_columns, g_f_Stretch___len__, g_f_Web___init__, g_f_Web_seats, g_f_Web_is_seat, g_f_Web_must_have, g_f_Web_cell, g_f_Web_neighbours, g_f_Web_changed, g_f_Field___init__, g_f_Field_web, g_f_Field_inside, g_f_Field_history, g_f_Field_can_join, g_f_Field_note, g_f_Field_enter, g_f_Field_step, g_f_Field_put, g_f_Field_leave, g_f_Field_set_need, g_f_Field_undo, g_f_Field_fork, g_f_Field_outcome, g_f_Field_never, g_f_replayed, g_f__law_tape, g_f__law_pick, g_f__law_row_right, g_f__law_ring_right, g_f__law_replayed_right, g_f_law]
theorem tbl_ok : prog.fns.map Fn.sh = tblS := by
  simp only [prog, tblS, List.map_cons, List.map_nil, Fn.sh, he_f_is_whole, he_f_is_pair, he_f_are_pairs, he_f_Frame___init__, he_f_Frame_beside, he_f_Frame_onward, he_f_Frame_back, he_f_is_cell, he_f_is_column, he_f_Stretch___init__, he_f_Stretch_columns, he_f_Stretch___len__, he_f_Web___init__, he_f_Web_seats, he_f_Web_is_seat, he_f_Web_must_have, he_f_Web_cell, he_f_Web_neighbours, he_f_Web_changed, he_f_Field___init__, he_f_Field_web, he_f_Field_inside, he_f_Field_history, he_f_Field_can_join, he_f_Field_note, he_f_Field_enter, he_f_Field_step, he_f_Field_put, he_f_Field_leave, he_f_Field_set_need, he_f_Field_undo, he_f_Field_fork, he_f_Field_outcome, he_f_Field_never, he_f_replayed, he_f__law_tape, he_f__law_pick, he_f__law_row_right, he_f__law_ring_right, he_f__law_replayed_right, he_f_law]
  rfl
end K79
end Mini
end
section
set_option linter.all false
set_option maxRecDepth 100000
set_option maxHeartbeats 4000000
set_option autoImplicit false
/-! The draws of the laws: tape and pick. -/
namespace Mini
theorem rbind_ok {α β : Type} (a : α) (T : Layer) (f : α → Layer → Res β) : (Res.ok a T).bind f = f a T := by cases T <;> rfl
theorem optR_some {α : Type} (a : α) (T : Layer) : optR (some a) T = .ok a T := by cases T <;> rfl
def sD : List Nat := [100, 105, 103, 105, 116, 115]
def sM : List Nat := [109, 105, 120, 101, 100]
def tapeC (D M : Int) : Cell := .dct [.str [100, 105, 103, 105, 116, 115], .str [109, 105, 120, 101, 100]] [.int D, .int M]
def pickBody (p q m1 m2 m3 m4 : Int) : Ss := .cons (.ite (.cmp .ge (.idx (.var 0) (.const (.str [100, 105, 103, 105, 116, 115]))) (.var 1)) (.cons (.asg (.name 2) (.bin .mod (.blt .int1 (.cons (.idx (.var 0) (.const (.str [100, 105, 103, 105, 116, 115]))) .nil)) (.var 1))) (.cons (.asg (.sub (.var 0) (.const (.str [100, 105, 103, 105, 116, 115]))) (.bin .fdiv (.idx (.var 0) (.const (.str [100, 105, 103, 105, 116, 115]))) (.var 1))) (.cons (.ret (.var 2)) .nil))) .nil) (.cons (.asg (.sub (.var 0) (.const (.str [109, 105, 120, 101, 100]))) (.bin .mod (.blt .int1 (.cons (.bin .add (.bin .mul (.idx (.var 0) (.const (.str [109, 105, 120, 101, 100]))) (.const (.int p))) (.const (.int q))) .nil)) (.const (.int m1)))) (.cons (.asg (.name 3) (.bin .mod (.blt .int1 (.cons (.bin .pow (.idx (.var 0) (.const (.str [109, 105, 120, 101, 100]))) (.const (.int 2))) .nil)) (.const (.int m2)))) (.cons (.ret (.bin .mod (.blt .int1 (.cons (.bin .fdiv (.bin .mod (.blt .int1 (.cons (.bin .pow (.var 3) (.const (.int 3))) .nil)) (.const (.int m3))) (.const (.int m4))) .nil)) (.var 1))) .nil)))
def tapeBody (a b c e m : Int) : Ss := .cons (.asg (.name 2) (.bin .add (.const (.int a)) (.bin .mul (.var 1) (.const (.int b))))) (.cons (.for_ (.name 3) (.seq (.var 0)) (.cons (.asg (.name 2) (.bin .add (.bin .mod (.blt .int1 (.cons (.bin .pow (.bin .add (.bin .add (.bin .mul (.var 2) (.const (.int c))) (.bin .mul (.var 3) (.var 3))) (.const (.int e))) (.const (.int 2))) .nil)) (.const (.int m))) (.const (.int 2)))) .nil)) (.cons (.asg (.name 4) (.ite (.and (.cmp .lt (.var 1) (.blt .len (.cons (.var 0) .nil))) (.cmp .ge (.idx (.var 0) (.var 1)) (.bin .pow (.const (.int 10)) (.const (.int 18))))) (.bin .sub (.idx (.var 0) (.var 1)) (.bin .pow (.const (.int 10)) (.const (.int 18)))) (.const (.int 0)))) (.cons (.ret (.cell (.ddisp (.cons (.const (.str [100, 105, 103, 105, 116, 115])) (.var 4) (.cons (.const (.str [109, 105, 120, 101, 100])) (.var 2) .nil))))) .nil)))
section
variable {P : Prog} {W d : Nat} {B : List Layer} {T : Layer}
theorem get_top {C : Ctx} {T : Layer} {k : Nat} : C.get T C.B.length k = T[k]? := by
  unfold Ctx.get getB
  rw [if_pos rfl]
theorem mod_bd {x m : Int} (hm : 0 < m) : 0 ≤ x % m ∧ x % m < m := ⟨Int.emod_nonneg _ (by omega), Int.emod_lt_of_pos _ hm⟩
theorem natAbs_lt {x m : Int} {n : Nat} (h : 0 ≤ x) (h2 : x < m) (h3 : m ≤ n) : x.natAbs < n := by omega
theorem pick_body {C : Ctx} {k : Nat} {D M many p q m1 m2 m3 m4 : Int} (hk : T[k]? = some (tapeC D M)) (h0 : 0 < many) (h1 : many < 1073741824) (hM : 0 ≤ M) (hM2 : M < 4294967296) (hD : 0 ≤ D) (hm1 : 0 < m1) (hm1' : m1 ≤ 4294967296) (hm2 : 0 < m2) (hm2' : m2 ≤ 4294967296) (hm3 : 0 < m3) (hm4 : 0 < m4) (hm4' : m4 < 1073741824) :
    ∃ r D' M' δ, 0 ≤ r ∧ r < many ∧ 0 ≤ D' ∧ 0 ≤ M' ∧ M' < 4294967296 ∧ execs C (pickBody p q m1 m2 m3 m4) [.ref C.B.length k, .int many, .undef, .undef] T = .ok (.ret (.int r), δ) (T.set k (tapeC D' M')) := by
  have hlt : k < T.length := (List.getElem?_eq_some_iff.mp hk).1
  have hg : C.get T C.B.length k = some (tapeC D M) := by rw [get_top]; exact hk
  unfold pickBody
  by_cases hc : many ≤ D
  · refine ⟨D % many, D / many, M, [.ref C.B.length k, .int many, .int (D % many), .undef], (mod_bd h0).1, (mod_bd h0).2, Int.ediv_nonneg hD (by omega), hM, hM2, ?_⟩
    simp [execs, exec, ev, evs, asg, rbind_ok, optR_some, idxM, seqOf, dctOf, hg, tapeC, cmpM, keysOk, hsh, isTup, lookK, eqv, truthy, hc, bltM, bin, h0, h1, putIx, setC, hlt, putKs, putVs, big]
  · have a1 := mod_bd (x := M * p + q) hm1
    have a2 := mod_bd (x := ((M * p + q) % m1) ^ 2) hm2
    refine ⟨((((M * p + q) % m1) ^ 2 % m2) ^ 3 % m3 / m4) % many, D, (M * p + q) % m1, [.ref C.B.length k, .int many, .undef, .int (((M * p + q) % m1) ^ 2 % m2)], (mod_bd h0).1, (mod_bd h0).2, hD, a1.1, by omega, ?_⟩
    have b1 : mulOk M p = true := by unfold mulOk p64; simp; left; left; omega
    have b2 : powOk ((M * p + q) % m1) 2 = true := by unfold powOk p64; simp; left; omega
    have b3 : powOk (((M * p + q) % m1) ^ 2 % m2) 3 = true := by unfold powOk p64; simp; left; omega
    have hg2 : C.get (T.set k (.dct [.str [100, 105, 103, 105, 116, 115], .str [109, 105, 120, 101, 100]] [.int D, .int ((M * p + q) % m1)])) C.B.length k = some (.dct [.str [100, 105, 103, 105, 116, 115], .str [109, 105, 120, 101, 100]] [.int D, .int ((M * p + q) % m1)]) := by
      rw [get_top, List.getElem?_set]; simp [hlt]
    simp [execs, exec, ev, evs, asg, rbind_ok, optR_some, idxM, seqOf, dctOf, hg, tapeC, cmpM, keysOk, hsh, isTup, lookK, eqv, truthy, hc, bltM, bin, h0, h1, putIx, setC, hlt, putKs, putVs, big, b1, b2, b3, hm1, hm2, hm3, hm4, hm4', hg2]
theorem pick_ok {kp : Bool} {f k : Nat} {D M many p q m1 m2 m3 m4 : Int} (hf : P.fns[f]? = some ⟨4, .imp, pickBody p q m1 m2 m3 m4⟩) (hk : T[k]? = some (tapeC D M)) (h0 : 0 < many) (h1 : many < 1073741824) (hM : 0 ≤ M) (hM2 : M < 4294967296) (hD : 0 ≤ D) (hm1 : 0 < m1) (hm1' : m1 ≤ 4294967296) (hm2 : 0 < m2) (hm2' : m2 ≤ 4294967296) (hm3 : 0 < m3) (hm4 : 0 < m4) (hm4' : m4 < 1073741824) :
    ∃ r D' M', 0 ≤ r ∧ r < many ∧ 0 ≤ D' ∧ 0 ≤ M' ∧ M' < 4294967296 ∧ callN P W (d + 1) kp f [.ref B.length k, .int many] B T = .ok (.int r) (T.set k (tapeC D' M')) := by
  obtain ⟨r, D', M', δ, g1, g2, g3, g4, g5, g6⟩ := pick_body (C := ⟨P, B, W, callN P W d⟩) (p := p) (q := q) (m3 := m3) (m4 := m4) hk h0 h1 hM hM2 hD hm1 hm1' hm2 hm2' hm3 hm4 hm4'
  refine ⟨r, D', M', g1, g2, g3, g4, g5, ?_⟩
  unfold callN
  rw [hf]
  simp only
  unfold bodyRun
  rw [hf]
  simp only
  have e : startF 4 [.ref B.length k, .int many] = [.ref B.length k, .int many, .undef, .undef] := rfl
  rw [e, g6]
  rfl
theorem log2_lt' {n k : Nat} (h : n < 2 ^ k) (hk : 0 < k) : n.log2 < k := by
  by_cases h0 : n = 0
  · subst h0; simpa using hk
  · exact (Nat.log2_lt h0).mpr h
theorem sq_lt {z : Int} {K : Nat} (h : z.natAbs < 2 ^ K) : (z * z).natAbs < 2 ^ (K + K) := by
  rw [Int.natAbs_mul, Nat.pow_add]
  exact Nat.mul_lt_mul'' h h
theorem sum_lt {x y e : Int} {K : Nat} (h : (y * y).natAbs < 2 ^ (K + K)) (hx : x.natAbs < 2 ^ 64) (he : e.natAbs < 2 ^ 64) : (x + y * y + e).natAbs < 2 ^ (K + K + 66) := by
  have h1 : (x + y * y + e).natAbs ≤ x.natAbs + (y * y).natAbs + e.natAbs := by omega
  have h2 : 2 ^ (K + K + 66) = 2 ^ (K + K) * 2 ^ 66 := Nat.pow_add ..
  have h3 : 1 ≤ 2 ^ (K + K) := Nat.one_le_two_pow
  have h4 : (2 : Nat) ^ 66 = 73786976294838206464 := by decide
  have h5 : (2 : Nat) ^ 64 = 18446744073709551616 := by decide
  rw [h4] at h2
  rw [h5] at hx he
  omega
def tapeTurn (C : Ctx) (c e m : Int) : MV → List MV → Layer → Res (Fl × List MV) := fun x δ T => (asg C (.name 3) x δ T).bind fun δ1 T1 => execs C (.cons (.asg (.name 2) (.bin .add (.bin .mod (.blt .int1 (.cons (.bin .pow (.bin .add (.bin .add (.bin .mul (.var 2) (.const (.int c))) (.bin .mul (.var 3) (.var 3))) (.const (.int e))) (.const (.int 2))) .nil)) (.const (.int m))) (.const (.int 2)))) .nil) δ1 T1
theorem tape_turn {C : Ctx} {c e m mx z : Int} {a b u v : MV} {K : Nat} (hK : K ≤ 1048576) (hz : z.natAbs < 2 ^ K) (hc : 0 ≤ c) (hc2 : c < 4294967296) (he : 0 ≤ e) (he2 : e < 4294967296) (hm : 0 < m) (h0 : 0 ≤ mx) (h1 : mx < 4294967296) :
    tapeTurn C c e m (.int z) [a, b, .int mx, u, v] T = .ok (.next, [a, b, .int ((mx * c + z * z + e) ^ 2 % m + 2), .int z, v]) T := by
  have b1 : mulOk mx c = true := by unfold mulOk p64; simp; left; left; omega
  have b2 : mulOk z z = true := by
    unfold mulOk
    simp only [Bool.or_eq_true, decide_eq_true_eq]
    have : z.natAbs.log2 < K + 1 := log2_lt' (Nat.lt_of_lt_of_le hz (Nat.pow_le_pow_right (by omega) (by omega))) (by omega)
    right; omega
  have hmul : mx * c < 4294967296 * 4294967296 := by
    have h2 : mx * c ≤ mx * 4294967296 := Int.mul_le_mul_of_nonneg_left (by omega) h0
    omega
  have hmul0 : 0 ≤ mx * c := Int.mul_nonneg h0 hc
  have b3 : powOk (mx * c + z * z + e) 2 = true := by
    unfold powOk
    simp only [Bool.and_eq_true, Bool.or_eq_true, decide_eq_true_eq]
    refine ⟨⟨by omega, by omega⟩, .inr ?_⟩
    have q := sum_lt (x := mx * c) (e := e) (sq_lt hz) (by have h5 : (2 : Nat) ^ 64 = 18446744073709551616 := by decide
                                                           omega) (by have h5 : (2 : Nat) ^ 64 = 18446744073709551616 := by decide
                                                                      omega)
    have := log2_lt' q (by omega)
    omega
  unfold tapeTurn
  simp [asg, execs, exec, ev, evs, rbind_ok, optR_some, bin, b1, b2, b3, bltM, hm]
theorem forF_nil_src {C : Ctx} {turn : MV → List MV → Layer → Res (Fl × List MV)} {x : MV} {r : List MV} {δ : List MV} {T : Layer} : forF C [] turn (x :: r) δ T = (turn x δ T).bind fun p T1 => match p.1 with
      | .next => forF C [] turn r p.2 T1
      | .cnt => forF C [] turn r p.2 T1
      | .brk => .ok (.next, p.2) T1
      | .ret v => .ok (.ret v, p.2) T1 := by
  simp only [forF, still, if_true]
  try rfl
theorem execs_next {C : Ctx} {s : S} {ss : Ss} {δ δ' : List MV} {T T' : Layer} (h : exec C s δ T = .ok (.next, δ') T') : execs C (.cons s ss) δ T = execs C ss δ' T' := by
  simp only [execs, h, rbind_ok]
theorem execs_ret {C : Ctx} {s : S} {ss : Ss} {δ δ' : List MV} {T T' : Layer} {v : MV} (h : exec C s δ T = .ok (.ret v, δ') T') : execs C (.cons s ss) δ T = .ok (.ret v, δ') T' := by
  simp only [execs, h, rbind_ok]
theorem for_lst {C : Ctx} {t : Tg} {body : Ss} {i : Nat} {xs δ : List MV} {T : Layer} (h : δ[i]? = some (.lst xs)) : exec C (.for_ t (.seq (.var i)) body) δ T = forF C [] (fun x δ T => (asg C t x δ T).bind fun δ1 T1 => execs C body δ1 T1) xs δ T := by
  simp only [exec, evIt, ev, h, rbind_ok, seqOf, srcOf, lockR]
theorem for_rng {C : Ctx} {t : Tg} {body : Ss} {e : E} {n : Nat} {δ : List MV} {T T1 : Layer} (h : ev C e δ T = .ok (.int n) T1) (hn : n < 1000000000) : exec C (.for_ t (.range1 e) body) δ T = forF C [] (fun x δ T => (asg C t x δ T).bind fun δ1 T1 => execs C body δ1 T1) (rangeL 0 n) δ T1 := by
  have q : ((n : Nat) : Int) < 1000000000 ∧ -1000000000 < ((n : Nat) : Int) := by omega
  simp only [exec, evIt, h, rbind_ok, lockR]
  rw [if_pos q]
  simp only [rbind_ok, Int.toNat_natCast]
theorem range_ints (n : Nat) : rangeL 0 n = ((List.range n).map fun (i : Nat) => (i : Int)).map MV.int := by
  unfold rangeL
  rw [List.map_map]
  apply List.map_congr_left
  intro i _
  simp
/-- max(1, min(k, len(script))) -/
theorem many_ev {C : Ctx} {ns : List Int} {δ : List MV} {T : Layer} {i : Nat} {k : Nat} (h : δ[i]? = some (.lst (ns.map .int))) (hk : 1 ≤ k) :
    ev C (.blt .max2 (.cons (.const (.int 1)) (.cons (.blt .min2 (.cons (.const (.int k)) (.cons (.blt .len (.cons (.var i) .nil)) .nil))) .nil))) δ T = .ok (.int ((max 1 (min k ns.length) : Nat) : Int)) T := by
  have e1 : (if (if ((ns.length : Nat) : Int) < k then ((ns.length : Nat) : Int) else k) > 1 then (if ((ns.length : Nat) : Int) < k then ((ns.length : Nat) : Int) else k) else 1) = ((max 1 (min k ns.length) : Nat) : Int) := by
    split <;> split <;> omega
  simp only [ev, evs, h, rbind_ok, optR_some, bltM, seqOf, List.length_map, e1]
theorem tape_loop {C : Ctx} {c e m : Int} {a b v : MV} {K : Nat} (hK : K ≤ 1048576) (hc : 0 ≤ c) (hc2 : c < 4294967296) (he : 0 ≤ e) (he2 : e < 4294967296) (hm : 0 < m) (hm2 : m ≤ 4294967290) : ∀ (ns : List Int) (mx : Int) (u : MV), (∀ z ∈ ns, z.natAbs < 2 ^ K) → 0 ≤ mx → mx < 4294967296 →
    ∃ mx' u', 0 ≤ mx' ∧ mx' < 4294967296 ∧ forF C [] (tapeTurn C c e m) (ns.map .int) [a, b, .int mx, u, v] T = .ok (.next, [a, b, .int mx', u', v]) T
  | [], mx, u, _, h0, h1 => ⟨mx, u, h0, h1, by simp [forF, still]⟩
  | z :: ns, mx, u, hz, h0, h1 => by
    have q := mod_bd (x := (mx * c + z * z + e) ^ 2) hm
    obtain ⟨mx', u', g1, g2, g3⟩ := tape_loop hK hc hc2 he he2 hm hm2 ns ((mx * c + z * z + e) ^ 2 % m + 2) (.int z) (fun y hy => hz y (List.mem_cons_of_mem _ hy)) (by omega) (by omega)
    refine ⟨mx', u', g1, g2, ?_⟩
    rw [List.map_cons, forF_nil_src, tape_turn hK (hz z (List.mem_cons_self ..)) hc hc2 he he2 hm h0 h1, rbind_ok]
    exact g3
theorem atIx_int {ns : List Int} {i : Int} (h0 : 0 ≤ i) (h1 : i < ns.length) : ∃ z, z ∈ ns ∧ atIx (ns.map MV.int) i = some (.int z) := by
  have hlt : i.toNat < ns.length := by omega
  refine ⟨ns[i.toNat], List.getElem_mem hlt, ?_⟩
  unfold atIx
  rw [if_pos h0, List.getElem?_map, List.getElem?_eq_getElem hlt]
  rfl
theorem tape_body {C : Ctx} {ns : List Int} {st a b c e m : Int} {K : Nat} (hK : K ≤ 1048576) (hz : ∀ z ∈ ns, z.natAbs < 2 ^ K) (hst : 0 ≤ st) (hst2 : st < 1000) (hb : 0 ≤ b) (hb2 : b < 1000000) (ha : 0 ≤ a) (ha2 : a < 1000000) (hc : 0 ≤ c) (hc2 : c < 4294967296) (he : 0 ≤ e) (he2 : e < 4294967296) (hm : 0 < m) (hm2 : m ≤ 4294967290) :
    ∃ D M δ, 0 ≤ D ∧ 0 ≤ M ∧ M < 4294967296 ∧ execs C (tapeBody a b c e m) [.lst (ns.map .int), .int st, .undef, .undef, .undef] T = .ok (.ret (.ref C.B.length T.length), δ) (T ++ [tapeC D M]) := by
  have hsb0 : 0 ≤ st * b := Int.mul_nonneg hst hb
  have hsb : st * b < 1000 * 1000000 := by
    have h2 : st * b ≤ st * 1000000 := Int.mul_le_mul_of_nonneg_left (by omega) hst
    omega
  have b0 : mulOk st b = true := by unfold mulOk p64; simp; left; left; omega
  obtain ⟨mx', u', g1, g2, g3⟩ := tape_loop (C := C) (T := T) (a := .lst (ns.map .int)) (b := .int st) (v := .undef) hK hc hc2 he he2 hm hm2 ns (a + st * b) .undef hz (by omega) (by omega)
  have p18 : powOk 10 18 = true := by decide
  have s1 : exec C (.asg (.name 2) (.bin .add (.const (.int a)) (.bin .mul (.var 1) (.const (.int b))))) [.lst (ns.map .int), .int st, .undef, .undef, .undef] T = .ok (.next, [.lst (ns.map .int), .int st, .int (a + st * b), .undef, .undef]) T := by
    simp [exec, ev, asg, rbind_ok, optR_some, bin, b0]
  unfold tapeBody
  rw [execs_next s1, execs_next ((for_lst (i := 0) rfl).trans g3)]
  by_cases hc1 : st < ns.length
  · obtain ⟨z, _, hat⟩ := atIx_int hst hc1
    by_cases hc2 : 1000000000000000000 ≤ z
    · refine ⟨z - 1000000000000000000, mx', [.lst (ns.map .int), .int st, .int mx', u', .int (z - 1000000000000000000)], by omega, g1, g2, ?_⟩
      simp [execs, exec, ev, evs, evL, evIt, evKV, asg, rbind_ok, optR_some, bin, b0, seqOf, srcOf, lockR, cmpM, bltM, hc1, truthy, idxM, hat, p18, hc2, mkD, keysOk, hsh, isTup, putKs, putVs, eqv, LD.cell, tapeC]
    · refine ⟨0, mx', [.lst (ns.map .int), .int st, .int mx', u', .int 0], by omega, g1, g2, ?_⟩
      simp [execs, exec, ev, evs, evL, evIt, evKV, asg, rbind_ok, optR_some, bin, b0, seqOf, srcOf, lockR, cmpM, bltM, hc1, truthy, idxM, hat, p18, hc2, mkD, keysOk, hsh, isTup, putKs, putVs, eqv, LD.cell, tapeC]
  · refine ⟨0, mx', [.lst (ns.map .int), .int st, .int mx', u', .int 0], by omega, g1, g2, ?_⟩
    simp [execs, exec, ev, evs, evL, evIt, evKV, asg, rbind_ok, optR_some, bin, b0, seqOf, srcOf, lockR, cmpM, bltM, hc1, truthy, idxM, p18, mkD, keysOk, hsh, isTup, putKs, putVs, eqv, LD.cell, tapeC]
theorem tape_ok {kp : Bool} {f : Nat} {ns : List Int} {st a b c e m : Int} {K : Nat} (hf : P.fns[f]? = some ⟨5, .imp, tapeBody a b c e m⟩) (hK : K ≤ 1048576) (hz : ∀ z ∈ ns, z.natAbs < 2 ^ K) (hst : 0 ≤ st) (hst2 : st < 1000) (hb : 0 ≤ b) (hb2 : b < 1000000) (ha : 0 ≤ a) (ha2 : a < 1000000) (hc : 0 ≤ c) (hc2 : c < 4294967296) (he : 0 ≤ e) (he2 : e < 4294967296) (hm : 0 < m) (hm2 : m ≤ 4294967290) :
    ∃ D M, 0 ≤ D ∧ 0 ≤ M ∧ M < 4294967296 ∧ callN P W (d + 1) kp f [.lst (ns.map .int), .int st] B T = .ok (.ref B.length T.length) (T ++ [tapeC D M]) := by
  obtain ⟨D, M, δ, g1, g2, g3, g4⟩ := tape_body (C := ⟨P, B, W, callN P W d⟩) (T := T) hK hz hst hst2 hb hb2 ha ha2 hc hc2 he he2 hm hm2
  refine ⟨D, M, g1, g2, g3, ?_⟩
  unfold callN
  rw [hf]
  simp only
  unfold bodyRun
  rw [hf]
  simp only
  have e : startF 5 [MV.lst (ns.map .int), .int st] = [.lst (ns.map .int), .int st, .undef, .undef, .undef] := rfl
  rw [e, g4]
  rfl
end
end Mini
end
section
set_option linter.all false
set_option maxRecDepth 1000000
set_option maxHeartbeats 0
namespace Mini
namespace K79
open PySem.W PyProof.Rows
abbrev cs (f : Nat) (n : Int) (T : Layer) : Res MV := callS prog tblS 100000 20 false f [.int n] [] T
theorem row_3 (T : Layer) : cs 37 3 T = .ok (.bl true) T := by kernel_rfl
theorem row_4 (T : Layer) : cs 37 4 T = .ok (.bl true) T := by kernel_rfl
theorem row_5 (T : Layer) : cs 37 5 T = .ok (.bl true) T := by kernel_rfl
theorem row_6 (T : Layer) : cs 37 6 T = .ok (.bl true) T := by kernel_rfl
theorem row_7 (T : Layer) : cs 37 7 T = .ok (.bl true) T := by kernel_rfl
theorem row_8 (T : Layer) : cs 37 8 T = .ok (.bl true) T := by kernel_rfl
theorem row_9 (T : Layer) : cs 37 9 T = .ok (.bl true) T := by kernel_rfl
theorem row_10 (T : Layer) : cs 37 10 T = .ok (.bl true) T := by kernel_rfl
theorem row_11 (T : Layer) : cs 37 11 T = .ok (.bl true) T := by kernel_rfl
theorem row_12 (T : Layer) : cs 37 12 T = .ok (.bl true) T := by kernel_rfl
theorem row_13 (T : Layer) : cs 37 13 T = .ok (.bl true) T := by kernel_rfl
theorem row_14 (T : Layer) : cs 37 14 T = .ok (.bl true) T := by kernel_rfl
theorem row_all (T : Layer) (n : Int) (h0 : 0 ≤ n) (h1 : n < 12) : callN prog 100000 20 false 37 [.int (3 + n)] [] T = .ok (.bl true) T := by
  rw [callS_eq tbl_ok]
  have h : n = 0 ∨ n = 1 ∨ n = 2 ∨ n = 3 ∨ n = 4 ∨ n = 5 ∨ n = 6 ∨ n = 7 ∨ n = 8 ∨ n = 9 ∨ n = 10 ∨ n = 11 := by omega
  rcases h with rfl | rfl | rfl | rfl | rfl | rfl | rfl | rfl | rfl | rfl | rfl | rfl
  · exact row_3 T
  · exact row_4 T
  · exact row_5 T
  · exact row_6 T
  · exact row_7 T
  · exact row_8 T
  · exact row_9 T
  · exact row_10 T
  · exact row_11 T
  · exact row_12 T
  · exact row_13 T
  · exact row_14 T
theorem ring_2 (T : Layer) : cs 38 2 T = .ok (.bl true) T := by kernel_rfl
theorem ring_3 (T : Layer) : cs 38 3 T = .ok (.bl true) T := by kernel_rfl
theorem ring_4 (T : Layer) : cs 38 4 T = .ok (.bl true) T := by kernel_rfl
theorem ring_5 (T : Layer) : cs 38 5 T = .ok (.bl true) T := by kernel_rfl
theorem ring_6 (T : Layer) : cs 38 6 T = .ok (.bl true) T := by kernel_rfl
theorem ring_7 (T : Layer) : cs 38 7 T = .ok (.bl true) T := by kernel_rfl
theorem ring_all (T : Layer) (n : Int) (h0 : 0 ≤ n) (h1 : n < 6) : callN prog 100000 20 false 38 [.int (2 + n)] [] T = .ok (.bl true) T := by
  rw [callS_eq tbl_ok]
  have h : n = 0 ∨ n = 1 ∨ n = 2 ∨ n = 3 ∨ n = 4 ∨ n = 5 := by omega
  rcases h with rfl | rfl | rfl | rfl | rfl | rfl
  · exact ring_2 T
  · exact ring_3 T
  · exact ring_4 T
  · exact ring_5 T
  · exact ring_6 T
  · exact ring_7 T
theorem rep_1 (T : Layer) : cs 39 1 T = .ok (.bl true) T := by kernel_rfl
theorem rep_2 (T : Layer) : cs 39 2 T = .ok (.bl true) T := by kernel_rfl
theorem rep_3 (T : Layer) : cs 39 3 T = .ok (.bl true) T := by kernel_rfl
theorem rep_4 (T : Layer) : cs 39 4 T = .ok (.bl true) T := by kernel_rfl
theorem rep_5 (T : Layer) : cs 39 5 T = .ok (.bl true) T := by kernel_rfl
theorem rep_6 (T : Layer) : cs 39 6 T = .ok (.bl true) T := by kernel_rfl
theorem rep_7 (T : Layer) : cs 39 7 T = .ok (.bl true) T := by kernel_rfl
theorem rep_8 (T : Layer) : cs 39 8 T = .ok (.bl true) T := by kernel_rfl
theorem rep_9 (T : Layer) : cs 39 9 T = .ok (.bl true) T := by kernel_rfl
theorem rep_10 (T : Layer) : cs 39 10 T = .ok (.bl true) T := by kernel_rfl
theorem rep_11 (T : Layer) : cs 39 11 T = .ok (.bl true) T := by kernel_rfl
theorem rep_12 (T : Layer) : cs 39 12 T = .ok (.bl true) T := by kernel_rfl
theorem rep_13 (T : Layer) : cs 39 13 T = .ok (.bl true) T := by kernel_rfl
theorem rep_14 (T : Layer) : cs 39 14 T = .ok (.bl true) T := by kernel_rfl
theorem rep_15 (T : Layer) : cs 39 15 T = .ok (.bl true) T := by kernel_rfl
theorem rep_16 (T : Layer) : cs 39 16 T = .ok (.bl true) T := by kernel_rfl
theorem rep_17 (T : Layer) : cs 39 17 T = .ok (.bl true) T := by kernel_rfl
theorem rep_18 (T : Layer) : cs 39 18 T = .ok (.bl true) T := by kernel_rfl
theorem rep_19 (T : Layer) : cs 39 19 T = .ok (.bl true) T := by kernel_rfl
theorem rep_20 (T : Layer) : cs 39 20 T = .ok (.bl true) T := by kernel_rfl
theorem rep_21 (T : Layer) : cs 39 21 T = .ok (.bl true) T := by kernel_rfl
theorem rep_22 (T : Layer) : cs 39 22 T = .ok (.bl true) T := by kernel_rfl
theorem rep_23 (T : Layer) : cs 39 23 T = .ok (.bl true) T := by kernel_rfl
theorem rep_24 (T : Layer) : cs 39 24 T = .ok (.bl true) T := by kernel_rfl
theorem rep_25 (T : Layer) : cs 39 25 T = .ok (.bl true) T := by kernel_rfl
theorem rep_26 (T : Layer) : cs 39 26 T = .ok (.bl true) T := by kernel_rfl
theorem rep_27 (T : Layer) : cs 39 27 T = .ok (.bl true) T := by kernel_rfl
theorem rep_28 (T : Layer) : cs 39 28 T = .ok (.bl true) T := by kernel_rfl
theorem rep_29 (T : Layer) : cs 39 29 T = .ok (.bl true) T := by kernel_rfl
theorem rep_30 (T : Layer) : cs 39 30 T = .ok (.bl true) T := by kernel_rfl
theorem rep_all (T : Layer) (n : Int) (h0 : 0 ≤ n) (h1 : n < 30) : callN prog 100000 20 false 39 [.int (1 + n)] [] T = .ok (.bl true) T := by
  rw [callS_eq tbl_ok]
  have h : n = 0 ∨ n = 1 ∨ n = 2 ∨ n = 3 ∨ n = 4 ∨ n = 5 ∨ n = 6 ∨ n = 7 ∨ n = 8 ∨ n = 9 ∨ n = 10 ∨ n = 11 ∨ n = 12 ∨ n = 13 ∨ n = 14 ∨ n = 15 ∨ n = 16 ∨ n = 17 ∨ n = 18 ∨ n = 19 ∨ n = 20 ∨ n = 21 ∨ n = 22 ∨ n = 23 ∨ n = 24 ∨ n = 25 ∨ n = 26 ∨ n = 27 ∨ n = 28 ∨ n = 29 := by omega
  rcases h with rfl | rfl | rfl | rfl | rfl | rfl | rfl | rfl | rfl | rfl | rfl | rfl | rfl | rfl | rfl | rfl | rfl | rfl | rfl | rfl | rfl | rfl | rfl | rfl | rfl | rfl | rfl | rfl | rfl | rfl
  · exact rep_1 T
  · exact rep_2 T
  · exact rep_3 T
  · exact rep_4 T
  · exact rep_5 T
  · exact rep_6 T
  · exact rep_7 T
  · exact rep_8 T
  · exact rep_9 T
  · exact rep_10 T
  · exact rep_11 T
  · exact rep_12 T
  · exact rep_13 T
  · exact rep_14 T
  · exact rep_15 T
  · exact rep_16 T
  · exact rep_17 T
  · exact rep_18 T
  · exact rep_19 T
  · exact rep_20 T
  · exact rep_21 T
  · exact rep_22 T
  · exact rep_23 T
  · exact rep_24 T
  · exact rep_25 T
  · exact rep_26 T
  · exact rep_27 T
  · exact rep_28 T
  · exact rep_29 T
  · exact rep_30 T
end K79
end Mini
end
section
set_option linter.all false
set_option maxRecDepth 100000
set_option maxHeartbeats 4000000
namespace Mini
namespace K79
open PySem.W PyProof.Rows
abbrev CL : Ctx := ⟨prog, [], 100000, callN prog 100000 20⟩
theorem pick79 {T : Layer} {k : Nat} {D M many : Int} (hk : T[k]? = some (tapeC D M)) (h0 : 0 < many) (h1 : many < 1073741824) (hM : 0 ≤ M) (hM2 : M < 4294967296) (hD : 0 ≤ D) :
    ∃ r D' M', 0 ≤ r ∧ r < many ∧ 0 ≤ D' ∧ 0 ≤ M' ∧ M' < 4294967296 ∧ callN prog 100000 20 false 36 [.ref 0 k, .int many] [] T = .ok (.int r) (T.set k (tapeC D' M')) :=
  pick_ok (P := prog) (B := []) (f := 36) (p := 40014) (q := 1031) (m1 := 2147483563) (m2 := 2147483399) (m3 := 998244353) (m4 := 13) rfl hk h0 h1 hM hM2 hD (by decide) (by decide) (by decide) (by decide) (by decide) (by decide) (by decide)
theorem tape79 {T : Layer} {ns : List Int} {st : Int} {K : Nat} (hK : K ≤ 1048576) (hz : ∀ z ∈ ns, z.natAbs < 2 ^ K) (hst : 0 ≤ st) (hst2 : st < 1000) :
    ∃ D M, 0 ≤ D ∧ 0 ≤ M ∧ M < 4294967296 ∧ callN prog 100000 20 false 35 [.lst (ns.map .int), .int st] [] T = .ok (.ref 0 T.length) (T ++ [tapeC D M]) :=
  tape_ok (P := prog) (B := []) (f := 35) (a := 101) (b := 53) (c := 30029) (e := 13) (m := 2147483563) rfl hK hz hst hst2 (by decide) (by decide) (by decide) (by decide) (by decide) (by decide) (by decide) (by decide) (by decide) (by decide)
def turnL : MV → List MV → Layer → Res (Fl × List MV) := fun x δ T => (asg CL (.name 1) x δ T).bind fun δ1 T1 => execs CL (.cons (.asg (.name 2) (.call false 35 [.a 0, .a 1] (.cons (.var 0) (.cons (.var 1) .nil)))) (.cons (.ite (.or (.not (.call false 37 [.a 0] (.cons (.bin .add (.const (.int 3)) (.call false 36 [.a 0, .a 1] (.cons (.var 2) (.cons (.const (.int 12)) .nil)))) .nil))) (.or (.not (.call false 38 [.a 0] (.cons (.bin .add (.const (.int 2)) (.call false 36 [.a 0, .a 1] (.cons (.var 2) (.cons (.const (.int 6)) .nil)))) .nil))) (.not (.call false 39 [.a 0] (.cons (.bin .add (.const (.int 1)) (.call false 36 [.a 0, .a 1] (.cons (.var 2) (.cons (.const (.int 30)) .nil)))) .nil))))) (.cons (.ret (.const (.bl false))) .nil) .nil) .nil)) δ1 T1
theorem turn79 {T : Layer} {ns : List Int} {st : Int} {K : Nat} {b c d : MV} (hK : K ≤ 1048576) (hz : ∀ z ∈ ns, z.natAbs < 2 ^ K) (hst : 0 ≤ st) (hst2 : st < 1000) :
    ∃ T' δ, T'.length = T.length + 1 ∧ δ.length = 4 ∧ δ[0]? = some (.lst (ns.map .int)) ∧ δ[3]? = some d ∧
    turnL (.int st) [.lst (ns.map .int), b, c, d] T = .ok (.next, δ) T' := by
  obtain ⟨D, M, d0, m0, m1, ht⟩ := tape79 (T := T) hK hz hst hst2
  have hat : (T ++ [tapeC D M])[T.length]? = some (tapeC D M) := by simp
  obtain ⟨r1, D1, M1, r1a, r1b, d1, m1a, m1b, hp1⟩ := pick79 (many := 12) hat (by decide) (by decide) m0 m1 d0
  have hat1 : ((T ++ [tapeC D M]).set T.length (tapeC D1 M1))[T.length]? = some (tapeC D1 M1) := by simp
  obtain ⟨r2, D2, M2, r2a, r2b, d2, m2a, m2b, hp2⟩ := pick79 (many := 6) hat1 (by decide) (by decide) m1a m1b d1
  have hat2 : (((T ++ [tapeC D M]).set T.length (tapeC D1 M1)).set T.length (tapeC D2 M2))[T.length]? = some (tapeC D2 M2) := by simp
  obtain ⟨r3, D3, M3, r3a, r3b, d3, m3a, m3b, hp3⟩ := pick79 (many := 30) hat2 (by decide) (by decide) m2a m2b d2
  refine ⟨(((T ++ [tapeC D M]).set T.length (tapeC D1 M1)).set T.length (tapeC D2 M2)).set T.length (tapeC D3 M3), [.lst (ns.map .int), .int st, .ref 0 T.length, d], by simp, rfl, rfl, rfl, ?_⟩
  have e1 := row_all ((T ++ [tapeC D M]).set T.length (tapeC D1 M1)) r1 r1a r1b
  have e2 := ring_all (((T ++ [tapeC D M]).set T.length (tapeC D1 M1)).set T.length (tapeC D2 M2)) r2 r2a r2b
  have e3 := rep_all ((((T ++ [tapeC D M]).set T.length (tapeC D1 M1)).set T.length (tapeC D2 M2)).set T.length (tapeC D3 M3)) r3 r3a r3b
  unfold turnL
  simp only [asg, rbind_ok, execs, exec, ev, evs, params, List.map_cons, List.map_nil, List.getD_cons_zero, List.getD_cons_succ, List.set_cons_succ, List.set_cons_zero, List.getElem?_cons_zero, List.getElem?_cons_succ, ht, hp1, hp2, hp3, bin, optR_some, e1, e2, e3, truthy, Bool.not_true, if_false, Bool.false_eq_true]
theorem loop79 {ns : List Int} {K : Nat} (hK : K ≤ 1048576) (hz : ∀ z ∈ ns, z.natAbs < 2 ^ K) {body : MV → List MV → Layer → Res (Fl × List MV)} (hb : ∀ (st : Int) (T : Layer) (b c d : MV), 0 ≤ st → st < 1000 → ∃ T' δ, T'.length = T.length + 1 ∧ δ.length = 4 ∧ δ[0]? = some (.lst (ns.map .int)) ∧ δ[3]? = some d ∧ body (.int st) [.lst (ns.map .int), b, c, d] T = .ok (.next, δ) T') :
    ∀ (sts : List Int) (T : Layer) (b c d : MV), (∀ s ∈ sts, 0 ≤ s ∧ s < 1000) → ∃ T' b' c', T'.length = T.length + sts.length ∧ forF CL [] body (sts.map .int) [.lst (ns.map .int), b, c, d] T = .ok (.next, [.lst (ns.map .int), b', c', d]) T'
  | [], T, b, c, d, _ => ⟨T, b, c, rfl, by simp [forF, still]⟩
  | s :: sts, T, b, c, d, h => by
    obtain ⟨T1, δ, l1, l2, g0, g3, e⟩ := hb s T b c d (h s (List.mem_cons_self ..)).1 (h s (List.mem_cons_self ..)).2
    obtain ⟨x0, x1, x2, x3, rfl⟩ : ∃ x0 x1 x2 x3, δ = [x0, x1, x2, x3] := by
      match δ, l2 with
      | [x0, x1, x2, x3], _ => exact ⟨_, _, _, _, rfl⟩
    cases g0
    cases g3
    obtain ⟨T2, b', c', l3, e2⟩ := loop79 hK hz hb sts T1 x1 x2 d fun y hy => h y (List.mem_cons_of_mem _ hy)
    refine ⟨T2, b', c', by rw [l3, l1, List.length_cons]; omega, ?_⟩
    rw [List.map_cons, forF_nil_src, e, rbind_ok]
    exact e2
def isR (r : Res (Fl × List MV)) : Bool := match r with
  | .ok (.ret (.bl true), _) _ => true
  | _ => false
theorem isR_ok {r : Res (Fl × List MV)} (h : isR r = true) : ∃ δ T, r = .ok (.ret (.bl true), δ) T := by
  unfold isR at h
  split at h
  · exact ⟨_, _, rfl⟩
  · cases h
def forL : S := (.for_ (.name 1) (.range1 (.blt .max2 (.cons (.const (.int 1)) (.cons (.blt .min2 (.cons (.const (.int 3)) (.cons (.blt .len (.cons (.var 0) .nil)) .nil))) .nil)))) (.cons (.asg (.name 2) (.call false 35 [.a 0, .a 1] (.cons (.var 0) (.cons (.var 1) .nil)))) (.cons (.ite (.or (.not (.call false 37 [.a 0] (.cons (.bin .add (.const (.int 3)) (.call false 36 [.a 0, .a 1] (.cons (.var 2) (.cons (.const (.int 12)) .nil)))) .nil))) (.or (.not (.call false 38 [.a 0] (.cons (.bin .add (.const (.int 2)) (.call false 36 [.a 0, .a 1] (.cons (.var 2) (.cons (.const (.int 6)) .nil)))) .nil))) (.not (.call false 39 [.a 0] (.cons (.bin .add (.const (.int 1)) (.call false 36 [.a 0, .a 1] (.cons (.var 2) (.cons (.const (.int 30)) .nil)))) .nil))))) (.cons (.ret (.const (.bl false))) .nil) .nil) .nil)))
def endL : Ss := (.cons (.asg (.name 3) (.call false 19 [.a 0] (.cons (.call false 12 [.a 0, .d (.bl false)] (.cons (.call false 9 [.a 0, .a 1] (.cons (.call false 3 [.a 0, .d (.tup []), .d (.tup [])] (.cons (.const (.int 2)) .nil)) (.cons (.fz (.disp (.cons (.tup (.cons (.tup (.cons (.const (.int 0)) (.cons (.const (.bl false)) .nil))) (.cons (.tup (.cons (.const (.int 1)) (.cons (.const (.bl false)) .nil))) .nil))) (.cons (.tup (.cons (.tup (.cons (.const (.int 0)) (.cons (.const (.bl true)) .nil))) (.cons (.tup (.cons (.const (.int 9)) (.cons (.const (.bl false)) .nil))) .nil))) .nil)))) .nil))) .nil)) .nil))) (.cons (.ret (.cmp .eq (.fz (.disp (.cons (.fld false (.var 3) 25) (.cons (.meth false (.var 3) 23 [] .nil) (.cons (.meth false (.var 3) 36 [] .nil) (.cons (.meth false (.var 3) 26 [] .nil) .nil)))))) (.fz (.disp (.cons (.fz (.disp (.cons (.tup (.cons (.const (.int 1)) (.cons (.const (.int 0)) .nil))) .nil))) (.cons (.fz (.disp (.cons (.tup (.cons (.const (.int 0)) (.cons (.const (.int 0)) .nil))) .nil))) (.cons (.fz (.disp (.cons (.tup (.cons (.const (.int 0)) (.cons (.const (.int 1)) .nil))) (.cons (.tup (.cons (.const (.int 1)) (.cons (.const (.int 1)) .nil))) .nil)))) (.cons (.fz (.disp (.cons (.tup (.cons (.const (.int 0)) (.cons (.const (.int 0)) .nil))) .nil))) .nil)))))))) .nil))
theorem law_body : f_law.body = .cons forL endL := rfl
theorem fin1 (s a b d : MV) (c1 : Cell) : isR ((Ss.den endL) ⟨prog, [], 100000, callS prog tblS 100000 20⟩ [s, a, b, d] [c1]) = true := by kernel_rfl
theorem fin2 (s a b d : MV) (c1 c2 : Cell) : isR ((Ss.den endL) ⟨prog, [], 100000, callS prog tblS 100000 20⟩ [s, a, b, d] [c1, c2]) = true := by kernel_rfl
theorem fin3 (s a b d : MV) (c1 c2 c3 : Cell) : isR ((Ss.den endL) ⟨prog, [], 100000, callS prog tblS 100000 20⟩ [s, a, b, d] [c1, c2, c3]) = true := by kernel_rfl
theorem fin_any (s a b d : MV) (T : Layer) (h1 : 1 ≤ T.length) (h2 : T.length ≤ 3) : ∃ δ T', execs CL endL [s, a, b, d] T = .ok (.ret (.bl true), δ) T' := by
  have e : CL = ⟨prog, [], 100000, callS prog tblS 100000 20⟩ := by rw [← callS_eq tbl_ok]
  rw [e]
  refine isR_ok ?_
  match T, h1, h2 with
  | [c1], _, _ => exact fin1 s a b d c1
  | [c1, c2], _, _ => exact fin2 s a b d c1 c2
  | [c1, c2, c3], _, _ => exact fin3 s a b d c1 c2 c3
end K79
end Mini
end
section
set_option linter.all false
set_option maxRecDepth 100000
set_option maxHeartbeats 4000000
namespace Mini
namespace K79
theorem run_law (ns : List Int) {K : Nat} (hK : K ≤ 1048576) (hz : ∀ z ∈ ns, z.natAbs < 2 ^ K) : ∃ T, bodyRun prog 100000 (callN prog 100000 20) 40 [.lst (ns.map MV.int)] [] [] = .ok (.bl true) T := by
  unfold bodyRun
  have ef : prog.fns[40]? = some f_law := rfl
  rw [ef]
  show ∃ T, (execs CL f_law.body (startF 4 [.lst (ns.map MV.int)]) []).bind (fun p T1 => optR (retOf p.1) T1) = .ok (.bl true) T
  have e0 : startF 4 [MV.lst (ns.map MV.int)] = [.lst (ns.map MV.int), .undef, .undef, .undef] := rfl
  rw [e0]
  have hk : exec CL forL [.lst (ns.map MV.int), .undef, .undef, .undef] [] = forF CL [] turnL (rangeL 0 (max 1 (min 3 ns.length))) [.lst (ns.map MV.int), .undef, .undef, .undef] [] := for_rng (many_ev (k := 3) rfl (by decide)) (by omega)
  rw [range_ints] at hk
  obtain ⟨T', b', c', l, e3⟩ := loop79 hK hz (body := turnL) (fun st T b c d h0 h1 => turn79 (ns := ns) (b := b) (c := c) (d := d) hK hz h0 h1) ((List.range (max 1 (min 3 ns.length))).map fun (i : Nat) => (i : Int)) [] .undef .undef .undef (fun s hs => by
    obtain ⟨i, hi, rfl⟩ := List.mem_map.mp hs
    have := List.mem_range.mp hi
    omega)
  rw [e3] at hk
  obtain ⟨δ, T2, e4⟩ := fin_any (.lst (ns.map MV.int)) b' c' .undef T' (by rw [l, List.length_map, List.length_range, List.length_nil]; omega) (by rw [l, List.length_map, List.length_range, List.length_nil]; omega)
  refine ⟨T2, ?_⟩
  have e5 : execs CL f_law.body [.lst (ns.map MV.int), .undef, .undef, .undef] [] = .ok (.ret (.bl true), δ) T2 := by
    rw [law_body]
    exact (execs_next hk).trans e4
  rw [e5]
  rfl
end K79
end Mini
end
set_option linter.all false
set_option maxRecDepth 100000
set_option maxHeartbeats 0
open PySem PySem.W PySem.Calls PyProof.Rows
theorem PySem.Challenge.cw_sparkrows_k79_fields_by_hand_holds : PySem.Challenge.rw_sparkrows_k79_fields_by_hand.Holds := by
  w_on; o_law
  refine HandSHeadRun.head_any (r := Mini.K79.Rw) (q := Mini.K79.qv) (H := Mini.K79.lk.hook) (ob := Mini.K79.ob) (M := 20000) (loose := Mini.K79.lnm) (d := HandSHeadRun.topDef Mini.K79.Rw.prog 36) (kwd := []) Mini.K79.ob_eq
    (by kernel_rfl) (fun s => by kernel_rfl) Mini.K79.run (by kernel_rfl) (by kernel_rfl) (by kernel_rfl) (by rfl) (by first | assumption | decide +kernel) (by decide +kernel) ⟨rfl, rfl, rfl, rfl, rfl, by decide +kernel⟩ ?hw ?hc
  case hw => w_witness2
  case hc =>
    exact Mini.walk_M (l := PySem.Challenge.rw_sparkrows_k79_fields_by_hand) (L := Mini.K79.theLaw) (n := 63) (D := 20) (dd := Mini.K79.d_law) (i := 15) (j := 36) (f := 40) rfl (by decide) (by kernel_rfl) ⟨rfl, by decide, by decide⟩ rfl (by rfl) (by rfl) (by rfl) rfl rfl (fun _ => rfl) rfl (fun _ _ _ _ _ _ _ => rfl) rfl rfl
      (fun K mg base w t => Mini.K79.all_ok t _) (fun ns _ hb => Mini.K79.run_law ns (K := 1048576) (Nat.le_refl _) fun z hz => Mini.bits_lt (hb z hz))
