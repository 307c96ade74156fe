import PyProof.Rows.All
import HandS.ForMost
import HandS.ForExc
import KE.KDictKeyed
import KE.SortData
import KE.GoesComp2
import KE.GoesSet
import KE.GoesDict
import KE.GoesEnum
import HandS.Walk
import HandS.Zip
import HandS.TupAny
import HandS.TupMul
import HandS.Style
import KE.LtData
import HandS.Deep
import HandS.TupLe
import HandS.Text
import HandS.TryOnly
import HandS.ExcOwn
import HandS.IsInst
import PyProof.ReprRoads
import HandS.Words
import HandS.Defaults
import HandS.HeadHook2
import HandS.HeadEnd
import HandS.Head0
import HandS.Head1
import HandS.Head2
import HandS.HeadHook4
import PyProof.ReprReads
import PySem.Challenge.RW_levelskins_k65_sheets_looked_at
set_option Elab.async false
set_option autoImplicit false
set_option linter.all false
set_option maxRecDepth 100000
set_option maxHeartbeats 0
/-! Iv: a small interpreter of the programs' Python over plain data. -/
namespace Iv
open PySem

/-- data that never changes; ref j: the object j of the memory -/
inductive D where
  | non | bl (b : Bool) | int (i : Int) | str (x : Str)
  | tup (xs : List D) | fl (xs : List D) | fd (kvs : List (D × D)) | ref (j : Nat)

/-- an object's content -/
inductive Ob where
  | lst (xs : List D) | dic (kvs : List (D × D)) | set (xs : List D) | ins (c : Nat) (fs : List (Str × D))

/-- a slot's value: data, an object of its own, an object lent -/
inductive SV where
  | val (d : D) | own (o : Ob) | lck (o : Ob)
/-- an expression's value: data, a new object, the slot whose object is lent -/
inductive R where
  | val (d : D) | own (o : Ob) | lnd (i : Nat)
/-- an exception: its class, its fields -/
structure Ex where
  c : Nat
  fs : List (Str × D)

abbrev Env := List (Option SV)
abbrev Mem := List Ob
inductive Res (α : Type) where
  | stuck | ok (a : α) (env : Env) (M : Mem) | exc (x : Ex) (env : Env) (M : Mem)

namespace Res
variable {α β : Type}
def bind (r : Res α) (k : α → Env → Mem → Res β) : Res β :=
  match r with
  | .stuck => .stuck
  | .ok a env M => k a env M
  | .exc x env M => .exc x env M
def ofO (o : Option α) (env : Env) (M : Mem) : Res α :=
  match o with
  | some a => .ok a env M
  | none => .stuck
end Res

abbrev Ev := Env → Mem → Res R
abbrev Evs := Env → Mem → Res (List R)

/-! ### data -/
mutual
/-- == of data; a ref and a frozen dict equal nothing here (asked only of pure data) -/
def D.eqp : D → D → Bool
  | .non, .non => true
  | .bl a, .bl b => a == b
  | .bl a, .int j => (if a then 1 else 0) == j
  | .int i, .bl b => i == (if b then 1 else 0)
  | .int i, .int j => i == j
  | .str x, .str y => x == y
  | .fl xs, .fl ys => D.eqps xs ys
  | .tup xs, .tup ys => D.eqps xs ys
  | _, _ => false
def D.eqps : List D → List D → Bool
  | [], [] => true
  | x :: xs, y :: ys => D.eqp x y && D.eqps xs ys
  | _, _ => false
end
mutual
/-- no refs, no dicts; its depth at most n -/
def D.pureN : Nat → D → Bool
  | _, .non => true
  | _, .bl _ => true
  | _, .int _ => true
  | _, .str x => PyData.strOk x
  | n + 1, .tup xs => D.pureNs n xs
  | n + 1, .fl xs => D.pureNs n xs
  | _, _ => false
def D.pureNs : Nat → List D → Bool
  | _, [] => true
  | n, x :: xs => D.pureN n x && D.pureNs n xs
end
def D.pure (d : D) : Bool := D.pureN 60 d
def D.pures (xs : List D) : Bool := D.pureNs 59 xs
mutual
/-- a key: its depth at most n -/
def D.keyN : Nat → D → Bool
  | _, .non => true
  | _, .bl _ => true
  | _, .int _ => true
  | _, .str _ => true
  | n + 1, .tup xs => D.keyNs n xs
  | _, _ => false
def D.keyNs : Nat → List D → Bool
  | _, [] => true
  | n, x :: xs => D.keyN n x && D.keyNs n xs
end
def D.isTup : D → Bool
  | .tup _ => true
  | _ => false
def D.key (d : D) : Bool := D.keyN 8 d
mutual
/-- a < b of data of one shape; none: they are not alike -/
def D.lt : D → D → Option Bool
  | .bl a, .bl b => some (!a && b)
  | .int i, .int j => some (decide (i < j))
  | .str x, .str y => some (decide (x.cps.toList < y.cps.toList))
  | .tup xs, .tup ys => D.lts xs ys
  | .fl xs, .fl ys => D.lts xs ys
  | _, _ => none
def D.lts : List D → List D → Option Bool
  | [], [] => some false
  | [], _ :: _ => some true
  | _ :: _, [] => some false
  | x :: xs, y :: ys => if D.eqp x y then D.lts xs ys else D.lt x y
end
mutual
/-- the shape: what is compared has one -/
def D.alike : D → D → Bool
  | .bl _, .bl _ => true
  | .int _, .int _ => true
  | .str _, .str _ => true
  | .tup xs, .tup ys => D.alikes xs ys
  | .fl xs, .fl ys => D.alikes xs ys
  | .non, .non => true
  | _, _ => false
def D.alikes : List D → List D → Bool
  | [], _ => true
  | _ :: _, [] => true
  | x :: xs, y :: ys => D.alike x y && D.alikes xs ys
end
/-- refs to lists of pure data read -/
def D.deref (M : Mem) : D → Option D
  | .ref j => match M[j]? with
    | some (.lst xs) => if D.pures xs then some (.fl xs) else none
    | _ => none
  | d => if D.pure d then some d else none

/-! ### views -/
inductive Vw where
  | dat (d : D) | obj (o : Ob)
def vw (env : Env) (M : Mem) : R → Option Vw
  | .val (.ref j) => match M[j]? with
    | some o => some (.obj o)
    | none => none
  | .val (.fl xs) => some (.obj (.lst xs))
  | .val (.fd kvs) => some (.obj (.dic kvs))
  | .val d => some (.dat d)
  | .own o => some (.obj o)
  | .lnd i => match env[i]? with
    | some (some (.own o)) => some (.obj o)
    | some (some (.lck o)) => some (.obj o)
    | _ => none
/-- data, new objects frozen -/
def R.toD : R → Option D
  | .val d => some d
  | .own (.lst xs) => some (.fl xs)
  | .own (.dic kvs) => some (.fd kvs)
  | _ => none
def toDs : List R → Option (List D)
  | [] => some []
  | r :: rs => match r.toD, toDs rs with
    | some d, some ds => some (d :: ds)
    | _, _ => none
/-- an argument -/
def R.arg (env : Env) : R → Option SV
  | .val d => some (.val d)
  | .own o => some (.own o)
  | .lnd i => match env[i]? with
    | some (some (.own o)) => some (.lck o)
    | some (some (.lck o)) => some (.lck o)
    | _ => none
def toArgs (env : Env) : List R → Option (List SV)
  | [] => some []
  | r :: rs => match r.arg env, toArgs env rs with
    | some d, some ds => some (d :: ds)
    | _, _ => none
/-- a list's or a tuple's items -/
def Vw.seq : Vw → Option (List D)
  | .dat (.tup xs) => some xs
  | .obj (.lst xs) => some xs
  | _ => none
/-- what is gone through (a set is not) -/
def Vw.iter : Vw → Option (List D)
  | .dat (.tup xs) => some xs
  | .obj (.lst xs) => some xs
  | _ => none

/-! ### dicts -/
def kget (kvs : List (D × D)) (k : D) : Option D := (kvs.find? fun p => D.eqp p.1 k).map (·.2)
def khas (kvs : List (D × D)) (k : D) : Bool := kvs.any fun p => D.eqp p.1 k
def kput (kvs : List (D × D)) (k v : D) : List (D × D) :=
  if khas kvs k then kvs.map fun p => if D.eqp p.1 k then (p.1, v) else p else kvs ++ [(k, v)]
def kdrop (kvs : List (D × D)) (k : D) : List (D × D) := kvs.filter fun p => !D.eqp p.1 k
/-- the key may be asked of such a dict: keys are all tuples or none is -/
def keyFor (kvs : List (D × D)) (k : D) : Bool :=
  k.key && (match kvs with
    | [] => true
    | p :: _ => p.1.isTup == k.isTup)
def putAll (kvs : List (D × D)) : List (D × D) → Option (List (D × D))
  | [] => some kvs
  | (k, v) :: r => if keyFor kvs k then putAll (kput kvs k v) r else none
def shas (xs : List D) (d : D) : Bool := xs.any fun x => D.eqp x d
def sput (xs : List D) (d : D) : List D := if shas xs d then xs else xs ++ [d]
def keyForS (xs : List D) (k : D) : Bool :=
  k.key && (match xs with
    | [] => true
    | p :: _ => p.isTup == k.isTup)

/-! ### sorting -/
def ins1 (le : D → D → Bool) (x : D) : List D → List D
  | [] => [x]
  | y :: ys => if le x y then x :: y :: ys else y :: ins1 le x ys
def isort (le : D → D → Bool) : List D → List D
  | [] => []
  | x :: xs => ins1 le x (isort le xs)
def dle (a b : D) : Bool := match D.lt b a with
  | some true => false
  | _ => true
/-- all alike, and sortable: tuples with an item, or no tuples and no None -/
def allAlike : List D → Bool
  | [] => true
  | x :: xs => xs.all (D.alike x) && allAlike xs
def sortable (xs : List D) : Bool :=
  (xs.all fun d => match d with
    | .tup (_ :: _) => true
    | _ => false) ||
  (xs.all fun d => match d with
    | .tup _ => false
    | .non => false
    | _ => true)
def sortD (xs : List D) : Option (List D) :=
  if allAlike xs && sortable xs && D.pures xs then some (isort dle xs) else none

/-! ### asInts, slices -/
def ixN (n : Nat) (i : Int) : Option Nat := L2.ixN n i
def sIx (n d : Nat) : Option Int → Nat
  | none => d
  | some v => if v < 0 then (v + n).toNat else min v.toNat n
def cut {α : Type} (xs : List α) (lo hi : Option Int) : List α :=
  (xs.drop (sIx xs.length 0 lo)).take (sIx xs.length xs.length hi - sIx xs.length 0 lo)

inductive Bop where
  | add | sub | mul | fdiv | mod | pow | xor
inductive Cop where
  | eq | ne | lt | le | gt | ge | is | nis | mem | nmem
inductive Ty where
  | int | bool | str | tuple | list | cls (c : Nat)
  deriving DecidableEq
inductive Blt where
  | len | sum | abs | int | str | min | max | all | list | tuple | sorted | dict | set | repr | isi (t : Ty)
  deriving DecidableEq
inductive Mth where
  | append | extend | insert | pop | count | index | join | split | endswith | get | setdefault | update | values | items
  deriving DecidableEq

def big64 (i : Int) : Bool := decide (-(2 ^ 64) < i ∧ i < 2 ^ 64)

def binI (op : Bop) (i j : Int) : Option Int :=
  match op with
  | .add => some (i + j)
  | .sub => some (i - j)
  | .mul => if big64 i || big64 j then some (i * j) else none
  | .fdiv => if decide (0 < j ∧ j < 1073741824) then some (i / j) else none
  | .mod => if decide (0 < j) then some (i % j) else none
  | .pow => if decide (0 ≤ j ∧ j ≤ 1000000 ∧ i.natAbs < 2 ^ 64) then some (i ^ j.toNat) else none
  | .xor => none
def lineOk (n : Nat) : Bool := decide (n ≤ sizeLine)
def addO (x y : Vw) : Option R :=
  match x, y with
  | .dat (.int i), .dat (.int j) => some (.val (.int (i + j)))
  | .dat (.str a), .dat (.str b) => if lineOk (a.length + b.length) then some (.val (.str (a ++ b))) else none
  | .dat (.tup xs), .dat (.tup ys) => if lineOk (xs.length + ys.length) then some (.val (.tup (xs ++ ys))) else none
  | .obj (.lst xs), .obj (.lst ys) => if lineOk (xs.length + ys.length) then some (.own (.lst (xs ++ ys))) else none
  | _, _ => none
def mulO (x y : Vw) : Option R :=
  match x, y with
  | .dat (.int i), .dat (.int j) => if big64 i || big64 j then some (.val (.int (i * j))) else none
  | .dat (.tup xs), .dat (.int k) => if decide (2 ≤ k ∧ k ≤ 1000 ∧ xs.length ≤ 1000) && !xs.isEmpty then some (.val (.tup (List.replicate k.toNat xs).flatten)) else none
  | _, _ => none
def intO (op : Bop) (x y : Vw) : Option R :=
  match x, y with
  | .dat (.int i), .dat (.int j) => (binI op i j).map fun k => .val (.int k)
  | _, _ => none
def binO : Bop → Vw → Vw → Option R
  | .add => addO
  | .mul => mulO
  | .sub => intO .sub
  | .fdiv => intO .fdiv
  | .mod => intO .mod
  | .pow => intO .pow
  | .xor => intO .xor

def truth : Vw → Option Bool
  | .dat .non => some false
  | .dat (.bl b) => some b
  | .dat (.int i) => some (i != 0)
  | .dat (.str x) => if lineOk x.length then some ((x.length : Int) != 0) else none
  | .dat (.tup xs) => some (!xs.isEmpty)
  | .obj (.lst xs) => some (!xs.isEmpty)
  | _ => none

/-- as data to be compared: refs read -/
def Vw.cmpD (M : Mem) : Vw → Option D
  | .dat (.tup xs) => if D.pures xs then some (.tup xs) else none
  | .dat d => if D.pure d then some d else none
  | .obj (.lst xs) => (xs.mapM (D.deref M)).map .fl
  | _ => none
def depth64 (_ : D) : Bool := true

def subStr (x y : Str) : Bool := !(Builtin.Str.occurrences y x 0 y.length 1).isEmpty

def memO (M : Mem) (x y : Vw) : Option Bool :=
  match y with
  | .dat (.tup xs) => match x.cmpD M, xs.mapM (D.deref M) with
    | some d, some ys => some (ys.any fun y => D.eqp y d)
    | _, _ => none
  | .obj (.lst xs) => match x.cmpD M, xs.mapM (D.deref M) with
    | some d, some ys => some (ys.any fun y => D.eqp y d)
    | _, _ => none
  | .dat (.str b) => match x with
    | .dat (.str a) => some (subStr a b)
    | _ => none
  | _ => none

def isO (x y : Vw) : Option Bool :=
  match x, y with
  | .dat (.bl a), .dat (.bl b) => some (a == b)
  | .dat d, .dat .non => some (match d with | .non => true | _ => false)
  | .obj (.lst _), .dat .non => some false
  | .obj (.dic _), .dat .non => some false
  | _, _ => none

def eqO (M : Mem) (x y : Vw) : Option Bool :=
  match x, y with
  | .dat (.str a), .dat (.str b) => some (a == b)
  | x, y => match x.cmpD M, y.cmpD M with
    | some a, some b => some (D.eqp a b)
    | _, _ => none
def cmpO (M : Mem) (op : Cop) (x y : Vw) : Option Bool :=
  match op with
  | .eq => eqO M x y
  | .ne => (eqO M x y).map not
  | .lt => match x, y with
    | .dat a, .dat b => if D.alike a b && D.pure a && D.pure b then D.lt a b else none
    | _, _ => none
  | .le => match x, y with
    | .dat (.int i), .dat (.int j) => some (decide (i ≤ j))
    | _, _ => none
  | .gt => match x, y with
    | .dat (.int i), .dat (.int j) => some (decide (j < i))
    | _, _ => none
  | .ge => match x, y with
    | .dat (.int i), .dat (.int j) => some (decide (j ≤ i))
    | _, _ => none
  | .is => isO x y
  | .nis => (isO x y).map not
  | .mem => memO M x y
  | .nmem => (memO M x y).map not

/-- o[i] -/
def subO (x y : Vw) : Option D :=
  match x, y with
  | .dat (.tup xs), .dat (.int i) => (ixN xs.length i).bind fun j => xs[j]?
  | .obj (.lst xs), .dat (.int i) => (ixN xs.length i).bind fun j => xs[j]?
  | .dat (.str x), .dat (.int i) => if lineOk x.length then (ixN x.cps.toList.length i).bind fun j => (x.cps.toList[j]?).map fun c => .str ⟨#[c]⟩ else none
  | _, _ => none
def slcO (x : Vw) (lo hi : Option Int) : Option R :=
  match x with
  | .dat (.tup xs) => some (.val (.tup (cut xs lo hi)))
  | .obj (.lst xs) => some (.own (.lst (cut xs lo hi)))
  | .dat (.str z) => if lineOk z.length then some (.val (.str ⟨(cut z.cps.toList lo hi).toArray⟩)) else none
  | _ => none
def revO (x : Vw) : Option R :=
  match x with
  | .dat (.tup xs) => some (.val (.tup xs.reverse))
  | .obj (.lst xs) => some (.own (.lst xs.reverse))
  | _ => none

/-! ### built-ins -/
def asInts : List D → Option (List Int)
  | [] => some []
  | .int i :: r => (asInts r).map (i :: ·)
  | _ => none
def asBools : List D → Option (List Bool)
  | [] => some []
  | .bl i :: r => (asBools r).map (i :: ·)
  | _ => none
def asStrs : List D → Option (List Str)
  | [] => some []
  | .str i :: r => (asStrs r).map (i :: ·)
  | _ => none
def least : D → List D → D
  | m, [] => m
  | m, x :: xs => if D.lt x m = some true then least x xs else least m xs
def greatest : D → List D → D
  | m, [] => m
  | m, x :: xs => if D.lt m x = some true then greatest x xs else greatest m xs
def decS (i : Int) : Str := Str.ofString (toString i)
def Ty.name : Ty → String
  | .int => "int"
  | .bool => "bool"
  | .str => "str"
  | .tuple => "tuple"
  | .list => "list"
  | .cls _ => "object"
def vwTy : Vw → Option String
  | .dat .non => some "NoneType"
  | .dat (.bl _) => some "bool"
  | .dat (.int _) => some "int"
  | .dat (.str _) => some "str"
  | .dat (.tup _) => some "tuple"
  | .obj (.lst _) => some "list"
  | _ => none
def tyO (t : Ty) (v : Vw) : Option Bool :=
  match v with
  | .dat .non => some false
  | .dat (.bl _) => some (match t with | .int => true | .bool => true | _ => false)
  | .dat (.int _) => some (match t with | .int => true | _ => false)
  | .dat (.str _) => some (match t with | .str => true | _ => false)
  | .dat (.tup _) => some (match t with | .tuple => true | _ => false)
  | .obj (.lst _) => some (match t with | .list => true | _ => false)
  | _ => none
/-- pairs as tuples of two -/
def twos : List D → Option (List (D × D))
  | [] => some []
  | .tup [a, b] :: r => (twos r).map ((a, b) :: ·)
  | _ => none
mutual
def D.toP : D → PyData
  | .non => .none
  | .bl b => .bool b
  | .int i => .int i
  | .str x => .str x
  | .tup xs => .tuple (D.toPs xs)
  | .fl xs => .list (D.toPs xs)
  | .fd _ => .none
  | .ref _ => .none
def D.toPs : List D → List PyData
  | [] => []
  | x :: xs => D.toP x :: D.toPs xs
end
def lenB : List Vw → Option R
  | [.dat (.tup xs)] => some (.val (.int xs.length))
  | [.obj (.lst xs)] => some (.val (.int xs.length))
  | [.dat (.str x)] => if lineOk x.length then some (.val (.int x.length)) else none
  | _ => none
def sumB : List Vw → Option R
  | [.obj (.lst xs)] => (asInts xs).map fun l => .val (.int l.sum)
  | _ => none
def absB : List Vw → Option R
  | [.dat (.int i)] => some (.val (.int (if i < 0 then -i else i)))
  | _ => none
def intB : List Vw → Option R
  | [.dat (.int i)] => some (.val (.int i))
  | [.dat (.bl b)] => some (.val (.int (if b then 1 else 0)))
  | _ => none
def strB : List Vw → Option R
  | [.dat (.int i)] => if decide (i.natAbs.log2 < 1920) then some (.val (.str (toString i))) else none
  | _ => none
def minB : List Vw → Option R
  | [.dat (.int i), .dat (.int j)] => some (.val (.int (if j < i then j else i)))
  | _ => none
def maxB : List Vw → Option R
  | [.dat (.int i), .dat (.int j)] => some (.val (.int (if j > i then j else i)))
  | _ => none
def allB : List Vw → Option R
  | [.obj (.lst xs)] => (asBools xs).map fun l => .val (.bl (l.all id))
  | _ => none
def listB : List Vw → Option R
  | [.dat (.tup xs)] => some (.own (.lst xs))
  | [.obj (.lst xs)] => some (.own (.lst xs))
  | _ => none
def tupleB : List Vw → Option R
  | [.dat (.tup xs)] => some (.val (.tup xs))
  | [.obj (.lst xs)] => some (.val (.tup xs))
  | _ => none
def reprB : List Vw → Option R
  | [v] => match v.cmpD [] with
    | some d => if (D.toP d).showable && lineOk ((D.toP d).shown.length + 64) then some (.val (.str (D.toP d).shown)) else none
    | none => none
  | _ => none
def isiB (t : Ty) : List Vw → Option R
  | [v] => (tyO t v).map fun b => .val (.bl b)
  | _ => none
def bltO : Blt → List Vw → Option R
  | .len => lenB
  | .sum => sumB
  | .abs => absB
  | .int => intB
  | .str => strB
  | .min => minB
  | .max => maxB
  | .all => allB
  | .list => listB
  | .tuple => tupleB
  | .repr => reprB
  | .isi t => isiB t
  | .sorted => fun _ => none
  | .dict => fun _ => none
  | .set => fun _ => none

/-! ### methods that read -/
def joinS (sep : Str) : List Str → Str
  | [] => ⟨#[]⟩
  | [x] => x
  | x :: y :: r => x ++ sep ++ joinS sep (y :: r)
def metO (M : Mem) (m : Mth) (x : Vw) (vs : List Vw) : Option R :=
  match m, x, vs with
  | .count, v, [d] => match v.seq, d.cmpD M with
    | some xs, some d => if D.pures xs then some (.val (.int (xs.countP fun x => D.eqp x d))) else none
    | _, _ => none
  | .index, v, [d] => match v.seq, d.cmpD M with
    | some xs, some d => if D.pures xs then (xs.findIdx? fun x => D.eqp x d).map fun j => .val (.int j) else none
    | _, _ => none
  | .get, .obj (.dic kvs), [.dat k] => if keyFor kvs k then some (.val ((kget kvs k).getD .non)) else none
  | .get, .obj (.dic kvs), [.dat k, .dat d] => if keyFor kvs k then some (.val ((kget kvs k).getD d)) else none
  | .join, .dat (.str sep), [v] => match v.seq.bind asStrs with
    | some l => if lineOk ((joinS sep l).length + l.length) then some (.val (.str (joinS sep l))) else none
    | none => none
  | .split, .dat (.str x), [.dat (.str sep)] => if sep.length == 1 && lineOk (x.length + 2) then some (.own (.lst ((Txt.split x sep).map .str))) else none
  | .endswith, .dat (.str x), [.dat (.str y)] => some (.val (.bl (Txt.endswith x y)))
  | _, _, _ => none

/-- where an object stands that is changed -/
inductive Pl where
  | slot (i : Nat) | mem (j : Nat)
def place : R → Option Pl
  | .lnd i => some (.slot i)
  | .val (.ref j) => some (.mem j)
  | _ => none
def getOb (env : Env) (M : Mem) : Pl → Option Ob
  | .slot i => match env[i]? with
    | some (some (.own o)) => some o
    | _ => none
  | .mem j => M[j]?
def setOb {α : Type} (env : Env) (M : Mem) (a : α) (o : Ob) : Pl → Res α
  | .slot i => .ok a (env.set i (some (.own o))) M
  | .mem j => .ok a env (M.set j o)
/-- methods that change their object and keep what they are handed: what they tell, the new content -/
def chgD (m : Mth) (o : Ob) (ds : List D) : Option (D × Ob) :=
  match m, o, ds with
  | .append, .lst xs, [d] => if decide (xs.length < sizeLine) then some (.non, .lst (xs ++ [d])) else none
  | _, _, _ => none
/-- methods that change their object and look at what they are handed -/
def chgV (m : Mth) (o : Ob) (vs : List Vw) : Option (D × Ob) :=
  match m, o, vs with
  | _, _, _ => none
inductive Mode where
  | frz | viw | red
  deriving DecidableEq
def Mth.mode : Mth → Mode
  | .append | .insert | .setdefault => .frz
  | .extend | .pop | .update => .viw
  | _ => .red
inductive Kd where
  | lst | tup | str | dic | set
  deriving DecidableEq
def Ob.kd : Ob → Option Kd
  | .lst _ => some .lst
  | .dic _ => some .dic
  | .set _ => some .set
  | .ins _ _ => none
def Vw.kd : Vw → Option Kd
  | .dat (.tup _) => some .tup
  | .dat (.str _) => some .str
  | .obj o => o.kd
  | _ => none
def mtOk : Kd → Mth → Bool
  | .lst, .append => true
  | _, _ => false

/-! ### the terms -/
inductive T where
  | nil | cons (a b : T)
  | var (i : Nat) | int (n : Int) | bl (b : Bool) | non | str (x : Str) | con (d : D)
  | tup (es : T) | lst (es : T) | dic (ps : T) | alc (e : T)
  | bin (op : Bop) (a b : T) | neg (a : T) | not (a : T)
  | cmp (op : Cop) (a b : T) | chn (o1 o2 : Cop) (a b c : T)
  | and (a b : T) | or (a b : T) | ife (c a b : T)
  | sub (a i : T) | slc (a lo hi : T) | rev (a : T)
  | sdf (o k e : T) | call (f : Nat) (es : T) | blt (f : Blt) (es : T) | met (m : Mth) (o es : T)
  | lc (own : List Nat) (elt cl : T) | sc (own : List Nat) (elt cl : T) | dc (own : List Nat) (k v cl : T)
  | cz | cl (tg it ifs rest : T)
  | itr (e : T) | rng (es : T) | zip (es : T) | enu (e : T) | itm (e : T) | vls (e : T)
  | srt (e : T) (i : Nat) (key : T)
  | tvar (own : Bool) (i : Nat) | ttup (ts : T) | tstr (b : Nat) (ts : T) (a : Nat) | tsub (o i : T)
  | asg (tg e : T) | exp (e : T) | ret (e : T) | retn | ifs (c a b : T) | for (wip : List Nat) (tg it b : T) | whl (wip : List Nat) (c b : T) | pas

/-! ### what terms denote -/
inductive Flow where
  | next | ret (r : R)
structure Den where
  ev : Ev
  evs : Evs
  /-- a target takes data -/
  tk : D → Env → Mem → Res Unit
  tks : List D → Env → Mem → Res Unit
  /-- an assignment of a value to a target -/
  asg : R → Env → Mem → Res Unit
  /-- what is gone through -/
  it : Env → Mem → Res (List D × Option Nat)
  /-- clauses, around what is done in each turn -/
  cl : (List D → Env → Mem → Res (List D)) → List D → Env → Mem → Res (List D)
  /-- tests, all -/
  ts : Env → Mem → Res Bool
  ex : Env → Mem → Res Flow
def Den.bad : Den := ⟨fun _ _ => .stuck, fun _ _ => .stuck, fun _ _ _ => .stuck, fun _ _ _ => .stuck, fun _ _ _ => .stuck, fun _ _ => .stuck, fun _ _ _ _ => .stuck, fun _ _ => .stuck, fun _ _ => .stuck⟩

section
variable {α β : Type}
def vwK (r : R) (k : Vw → Env → Mem → Res α) (env : Env) (M : Mem) : Res α :=
  match vw env M r with
  | some v => k v env M
  | none => .stuck
def pureE (r : R) : Ev := fun env M => .ok r env M
def optE (o : Option R) : Ev := fun env M => match o with
  | some r => .ok r env M
  | none => .stuck
end
def varE (i : Nat) : Ev := fun env M => match env[i]? with
  | some (some (.val d)) => .ok (.val d) env M
  | some (some _) => .ok (.lnd i) env M
  | _ => .stuck
def nilE : Evs := fun env M => .ok [] env M
def consE (a : Ev) (b : Evs) : Evs := fun env M => (a env M).bind fun r env M => (b env M).bind fun rs env M => .ok (r :: rs) env M
def tupE (es : Evs) : Ev := fun env M => (es env M).bind fun rs env M => match toDs rs with
  | some ds => if lineOk ds.length then .ok (.val (.tup ds)) env M else .stuck
  | none => .stuck
def lstE (es : Evs) : Ev := fun env M => (es env M).bind fun rs env M => match toDs rs with
  | some ds => if lineOk ds.length then .ok (.own (.lst ds)) env M else .stuck
  | none => .stuck
def alcE (e : Ev) : Ev := fun env M => (e env M).bind fun r env M => match r with
  | .own o => .ok (.val (.ref M.length)) env (M ++ [o])
  | _ => .stuck
def pairs : List D → Option (List (D × D))
  | [] => some []
  | k :: v :: r => (pairs r).map ((k, v) :: ·)
  | _ => none
def dicE (ps : Evs) : Ev := fun env M => (ps env M).bind fun rs env M => match (toDs rs).bind pairs with
  | some kvs => if decide (kvs.length ≤ 15) then match putAll [] kvs with
      | some l => .ok (.own (.dic l)) env M
      | none => .stuck
    else .stuck
  | none => .stuck
def bin2 (f : Env → Mem → Vw → Vw → Option R) (a b : Ev) : Ev := fun env M =>
  (a env M).bind fun x env M => (b env M).bind fun y env M => match vw env M x, vw env M y with
    | some v, some w => optE (f env M v w) env M
    | _, _ => .stuck
def un1 (f : Vw → Option R) (a : Ev) : Ev := fun env M => (a env M).bind fun x env M => vwK x (fun v => optE (f v)) env M
def negO : Vw → Option R
  | .dat (.int i) => some (.val (.int (-i)))
  | _ => none
def binE (op : Bop) (a b : Ev) : Ev := bin2 (fun _ _ => binO op) a b
def cmpE (op : Cop) (a b : Ev) : Ev := bin2 (fun _ M v w => (cmpO M op v w).map fun c => .val (.bl c)) a b
def tst (a : Ev) (env : Env) (M : Mem) : Res Bool := (a env M).bind fun x env M => vwK x (fun v => Res.ofO (truth v)) env M
def notE (a : Ev) : Ev := fun env M => (tst a env M).bind fun b env M => .ok (.val (.bl (!b))) env M
def chnE (o1 o2 : Cop) (a b c : Ev) : Ev := fun env M =>
  (a env M).bind fun x env M => (b env M).bind fun y env M => match vw env M x, vw env M y with
    | some v, some w => match cmpO M o1 v w with
      | some true => (c env M).bind fun z env M => match vw env M y, vw env M z with
        | some w, some u => optE ((cmpO M o2 w u).map fun d => .val (.bl d)) env M
        | _, _ => .stuck
      | some false => .ok (.val (.bl false)) env M
      | none => .stuck
    | _, _ => .stuck
def andE (a b : Ev) : Ev := fun env M => (a env M).bind fun x env M => vwK x (fun v env M => match truth v with
  | some true => b env M
  | some false => .ok x env M
  | none => .stuck) env M
def orE (a b : Ev) : Ev := fun env M => (a env M).bind fun x env M => vwK x (fun v env M => match truth v with
  | some true => .ok x env M
  | some false => b env M
  | none => .stuck) env M
def ifeE (c a b : Ev) : Ev := fun env M => (tst c env M).bind fun t env M => if t then a env M else b env M
def subE (a i : Ev) : Ev := bin2 (fun _ _ v w => (subO v w).map .val) a i
def optR : R → Option (Option Int)
  | .val (.int i) => some (some i)
  | .val .non => some none
  | _ => none
def slcE (a lo hi : Ev) : Ev := fun env M => (a env M).bind fun x env M => (lo env M).bind fun l env M => (hi env M).bind fun h env M =>
  match vw env M x, optR l, optR h with
  | some v, some l, some h => optE (slcO v l h) env M
  | _, _, _ => .stuck
def vws (env : Env) (M : Mem) : List R → Option (List Vw)
  | [] => some []
  | r :: rs => match vw env M r, vws env M rs with
    | some v, some vs => some (v :: vs)
    | _, _ => none
def bltE (f : Blt) (es : Evs) : Ev := fun env M => (es env M).bind fun rs env M => match vws env M rs with
  | some vs => optE (bltO f vs) env M
  | none => .stuck
def zipD {α β : Type} : List α → List β → List (α × β)
  | a :: as, b :: bs => (a, b) :: zipD as bs
  | _, _ => []
def metK (m : Mth) (k : Kd) (x : R) (rs : List R) (env : Env) (M : Mem) : Res R :=
  match m.mode with
  | .frz => match place x, toDs rs with
    | some p, some ds => match getOb env M p with
      | some ob => if ob.kd == some k then match chgD m ob ds with
          | some (d, o') => setOb env M (.val d) o' p
          | none => .stuck
        else .stuck
      | none => .stuck
    | _, _ => .stuck
  | .viw => match place x, vws env M rs with
    | some p, some vs => match getOb env M p with
      | some ob => if ob.kd == some k then match chgV m ob vs with
          | some (d, o') => setOb env M (.val d) o' p
          | none => .stuck
        else .stuck
      | none => .stuck
    | _, _ => .stuck
  | .red => match vw env M x, vws env M rs with
    | some v, some vs => if v.kd == some k then optE (metO M m v vs) env M else .stuck
    | _, _ => .stuck
def metE (m : Mth) (o : Ev) (es : Evs) : Ev := fun env M => (o env M).bind fun x env M => match (vw env M x).bind Vw.kd with
  | some k => if mtOk k m then (es env M).bind fun rs env M => metK m k x rs env M else .stuck
  | none => .stuck
/-- o.setdefault(k, e), e a new object that goes into the memory where the key is not there -/
def sdfE (o k e : Ev) : Ev := fun env M => (o env M).bind fun x env M => (k env M).bind fun y env M => (e env M).bind fun z env M => match place x, y, z with
  | some p, .val key, .own ob => match getOb env M p with
    | some (.dic kvs) => if keyFor kvs key && lineOk (kvs.length + 1) then match kget kvs key with
        | some v => .ok (.val v) env M
        | none => setOb env (M ++ [ob]) (.val (.ref M.length)) (.dic (kput kvs key (.ref M.length))) p
      else .stuck
    | _ => .stuck
  | _, _, _ => .stuck
abbrev Gam := Nat → List SV → Mem → Res R
def callE (G : Gam) (f : Nat) (es : Evs) : Ev := fun env M => (es env M).bind fun rs env M => match toArgs env rs with
  | some as => match G f as M with
    | .ok r _ M' => .ok r env M'
    | .exc x _ M' => .exc x env M'
    | .stuck => .stuck
  | none => .stuck

/-! ### comprehensions -/
/-- within a comprehension's block: own objects are lent, the block's own names forgotten -/
def lend : Option SV → Option SV
  | some (.own o) => some (.lck o)
  | v => v
def wipeE (env : Env) : List Nat → Env
  | [] => env
  | i :: is => (wipeE env is).set i none
def blk (own : List Nat) (env : Env) : Env := wipeE (env.map lend) own
def inBlk (own : List Nat) (k : Env → Mem → Res (List D)) (f : List D → Option R) : Ev := fun env M =>
  match k (blk own env) M with
  | .ok l _ M' => optE (f l) env M'
  | _ => .stuck
def emitE (elt : Ev) : List D → Env → Mem → Res (List D) := fun acc env M => (elt env M).bind fun r env M => match r.toD with
  | some d => if decide (acc.length < sizeLine) then .ok (acc ++ [d]) env M else .stuck
  | none => .stuck
def emitS (elt : Ev) : List D → Env → Mem → Res (List D) := fun acc env M => (elt env M).bind fun r env M => match r with
  | .val d => if decide (acc.length < sizeLine) && keyForS acc d then .ok (sput acc d) env M else .stuck
  | _ => .stuck
/-- the entries, keys and values in turn -/
def emitK (k v : Ev) : List D → Env → Mem → Res (List D) := fun acc env M => (k env M).bind fun r env M => (v env M).bind fun z env M => match r, z.toD, pairs acc with
  | .val d, some e, some kvs => if decide (kvs.length < sizeLine) && keyFor kvs d then .ok ((kput kvs d e).flatMap fun p => [p.1, p.2]) env M else .stuck
  | _, _, _ => .stuck
def lockS (env : Env) : Option Nat → Env
  | none => env
  | some i => match env[i]? with
    | some (some (.own o)) => env.set i (some (.lck o))
    | _ => env
def wasOwn (env : Env) : Option Nat → Bool
  | none => false
  | some i => match env[i]? with
    | some (some (.own _)) => true
    | _ => false
def unlock (env : Env) : Option Nat → Option Env
  | none => some env
  | some i => match env[i]? with
    | some (some (.lck o)) => some (env.set i (some (.own o)))
    | _ => none
def goCl (tg : D → Env → Mem → Res Unit) (ts : Env → Mem → Res Bool) (rest : List D → Env → Mem → Res (List D)) : List D → List D → Env → Mem → Res (List D)
  | [], acc, env, M => .ok acc env M
  | x :: xs, acc, env, M => (tg x env M).bind fun _ env M => (ts env M).bind fun b env M =>
      if b then (rest acc env M).bind fun acc env M => goCl tg ts rest xs acc env M else goCl tg ts rest xs acc env M
def clE (tg : D → Env → Mem → Res Unit) (it : Env → Mem → Res (List D × Option Nat)) (ts : Env → Mem → Res Bool) (rest : (List D → Env → Mem → Res (List D)) → List D → Env → Mem → Res (List D)) :
    (List D → Env → Mem → Res (List D)) → List D → Env → Mem → Res (List D) := fun emit acc env M =>
  (it env M).bind fun l env M => if wasOwn env l.2 then .stuck else goCl tg ts (rest emit) l.1 acc env M

/-! ### what is gone through -/
def lkOf : R → Option Nat
  | .lnd i => some i
  | _ => none
def R.isRef : R → Bool
  | .val (.ref _) => true
  | _ => false
def iterE (e : Ev) (env : Env) (M : Mem) : Res (List D × Option Nat) := (e env M).bind fun r env M =>
  if r.isRef then .stuck else match (vw env M r).bind Vw.iter with
    | some l => .ok (l, lkOf r) env M
    | none => .stuck
def rangeD (lo : Int) (n : Nat) : List D := (List.range n).map fun k => .int (lo + (k : Nat))
def rngE (es : Evs) (env : Env) (M : Mem) : Res (List D × Option Nat) := (es env M).bind fun rs env M => match rs with
  | [.val (.int j)] => if decide (-(2 ^ 62) ≤ j ∧ j < 2 ^ 62) then .ok (rangeD 0 j.toNat, none) env M else .stuck
  | [.val (.int i), .val (.int j)] => if decide (-(2 ^ 62) ≤ i ∧ i < 2 ^ 62 ∧ -(2 ^ 62) ≤ j ∧ j < 2 ^ 62) then .ok (rangeD i (j - i).toNat, none) env M else .stuck
  | [.val (.int i), .val (.int j), .val (.int c)] => if decide (-(2 ^ 62) ≤ i ∧ i < 2 ^ 62 ∧ -(2 ^ 62) ≤ j ∧ j < 2 ^ 62 ∧ 0 < c ∧ c < 2 ^ 30) then
      .ok ((List.range ((j - i + c - 1) / c).toNat).map fun k => .int (i + (k : Nat) * c), none) env M else .stuck
  | _ => .stuck
def enumD (k : Nat) : List D → List D
  | [] => []
  | x :: xs => .tup [.int k, x] :: enumD (k + 1) xs
def enuE (e : Ev) (env : Env) (M : Mem) : Res (List D × Option Nat) := (e env M).bind fun r env M => match (vw env M r).bind Vw.seq with
  | some l => .ok (enumD 0 l, none) env M
  | none => .stuck
def zipE (es : Evs) (env : Env) (M : Mem) : Res (List D × Option Nat) := (es env M).bind fun rs env M => match rs with
  | [a, b] => match (vw env M a).bind Vw.seq, (vw env M b).bind Vw.seq with
    | some l, some m => .ok ((zipD l m).map fun p => .tup [p.1, p.2], none) env M
    | _, _ => .stuck
  | _ => .stuck
def itmE (e : Ev) (env : Env) (M : Mem) : Res (List D × Option Nat) := (e env M).bind fun r env M =>
  if r.isRef then .stuck else match vw env M r with
    | some (.obj (.dic kvs)) => .ok (kvs.map fun p => .tup [p.1, p.2], lkOf r) env M
    | _ => .stuck
def vlsE (e : Ev) (env : Env) (M : Mem) : Res (List D × Option Nat) := (e env M).bind fun r env M =>
  if r.isRef then .stuck else match vw env M r with
    | some (.obj (.dic kvs)) => .ok (kvs.map (·.2), lkOf r) env M
    | _ => .stuck

/-! ### sorted by a key -/
def keysOf (i : Nat) (key : Ev) : List D → Env → Mem → Res (List D)
  | [], env, M => .ok [] env M
  | x :: xs, env, M => (key (env.set i (some (.val x))) M).bind fun r _ M => match r.toD with
    | some k => (keysOf i key xs env M).bind fun ks env M => .ok (k :: ks) env M
    | none => .stuck
def ple (a b : D × D) : Bool := dle a.1 b.1
def pins (x : D × D) : List (D × D) → List (D × D)
  | [] => [x]
  | y :: ys => if ple x y then x :: y :: ys else y :: pins x ys
def psort : List (D × D) → List (D × D)
  | [] => []
  | x :: xs => pins x (psort xs)
def srtE (e : Ev) (i : Nat) (key : Ev) : Ev := fun env M => (e env M).bind fun r env M => match (vw env M r).bind Vw.iter with
  | some l => match keysOf i key l (env.map lend) M with
    | .ok ks _ M' => if allAlike ks && sortable ks && D.pures ks then .ok (.own (.lst ((psort (zipD ks l)).map (·.2)))) env M' else .stuck
    | .exc x _ M' => .exc x env M'
    | .stuck => .stuck
  | none => .stuck

/-! ### targets, statements -/
def isLck (env : Env) (i : Nat) : Bool := match env[i]? with
  | some (some (.lck _)) => true
  | _ => false
/-- a name takes a value: frozen, or as its own object -/
def asgV (own : Bool) (i : Nat) : R → Env → Mem → Res Unit := fun r env M =>
  if isLck env i || decide (env.length ≤ i) then .stuck else
  match own, r with
  | true, .own o => .ok () (env.set i (some (.own o))) M
  | _, r => match r.toD with
    | some d => .ok () (env.set i (some (.val d))) M
    | none => .stuck
def tkT (n : Nat) (ts : List D → Env → Mem → Res Unit) : D → Env → Mem → Res Unit := fun d env M => match d with
  | .tup xs => if xs.length == n then ts xs env M else .stuck
  | .fl xs => if xs.length == n then ts xs env M else .stuck
  | _ => .stuck
def tksC (t : D → Env → Mem → Res Unit) (ts : List D → Env → Mem → Res Unit) : List D → Env → Mem → Res Unit := fun ds env M => match ds with
  | d :: ds => (t d env M).bind fun _ env M => ts ds env M
  | [] => .stuck
/-- b names, *rest, a names: the starred takes a list -/
def tkS (b a : Nat) (ts : List D → Env → Mem → Res Unit) : D → Env → Mem → Res Unit := fun d env M => match d with
  | .tup ds => if ds.length < b + a then .stuck else ts (ds.take b ++ [.fl ((ds.drop b).take (ds.length - b - a))] ++ ds.drop (ds.length - a)) env M
  | _ => .stuck
def setO (o : Ob) (i : Vw) (d : D) : Option Ob :=
  match o, i with
  | .lst xs, .dat (.int k) => (ixN xs.length k).map fun j => .lst (xs.set j d)
  | _, _ => none
def tkSub (o i : Ev) : D → Env → Mem → Res Unit := fun d env M => (o env M).bind fun x env M => (i env M).bind fun y env M =>
  match place x, vw env M y with
  | some p, some v => match getOb env M p with
    | some ob => match setO ob v d with
      | some ob' => setOb env M () ob' p
      | none => .stuck
    | none => .stuck
  | _, _ => .stuck
def asgE (asg : R → Env → Mem → Res Unit) (e : Ev) (env : Env) (M : Mem) : Res Flow := (e env M).bind fun r env M => (asg r env M).bind fun _ env M => .ok .next env M
def asgD (tk : D → Env → Mem → Res Unit) : R → Env → Mem → Res Unit := fun r env M => match r.toD with
  | some d => tk d env M
  | none => .stuck
def expE (e : Ev) (env : Env) (M : Mem) : Res Flow := (e env M).bind fun _ env M => .ok .next env M
/-- return: a slot's own object goes with it -/
def retE (e : Ev) (env : Env) (M : Mem) : Res Flow := (e env M).bind fun r env M => match r with
  | .lnd i => match env[i]? with
    | some (some (.own o)) => .ok (.ret (.own o)) env M
    | _ => .stuck
  | r => .ok (.ret r) env M
def seqS (a b : Env → Mem → Res Flow) (env : Env) (M : Mem) : Res Flow := (a env M).bind fun f env M => match f with
  | .next => b env M
  | .ret r => .ok (.ret r) env M
def ifsS (c : Ev) (a b : Env → Mem → Res Flow) (env : Env) (M : Mem) : Res Flow := (tst c env M).bind fun t env M => if t then a env M else b env M
def goFor (wip : List Nat) (tk : D → Env → Mem → Res Unit) (b : Env → Mem → Res Flow) : List D → Env → Mem → Res Flow
  | [], env, M => .ok .next env M
  | x :: xs, env, M => (tk x env M).bind fun _ env M => (b env M).bind fun f env M => match f with
    | .next => goFor wip tk b xs (wipeE env wip) M
    | .ret r => .ok (.ret r) (wipeE env wip) M
def unlockR (lk : Option Nat) : Res Flow → Res Flow
  | .ok f env M => match unlock env lk with
    | some env => .ok f env M
    | none => .stuck
  | .exc x env M => match unlock env lk with
    | some env => .exc x env M
    | none => .stuck
  | .stuck => .stuck
def forS (wip : List Nat) (tk : D → Env → Mem → Res Unit) (it : Env → Mem → Res (List D × Option Nat)) (b : Env → Mem → Res Flow) (env : Env) (M : Mem) : Res Flow :=
  (it env M).bind fun l env M =>
    if wasOwn env l.2 then unlockR l.2 (goFor wip tk b l.1 (lockS env l.2) M)
    else goFor wip tk b l.1 env M
def whileN : Nat → List Nat → Ev → (Env → Mem → Res Flow) → Env → Mem → Res Flow
  | 0, _, _, _, _, _ => .stuck
  | n + 1, wip, c, b, env, M => (tst c env M).bind fun t env M => if t then (b env M).bind fun f env M => match f with
      | .next => whileN n wip c b (wipeE env wip) M
      | .ret r => .ok (.ret r) env M
    else .ok .next env M

/-- the fuel of while loops -/
def fuel : Nat := 4096

def T.len : T → Nat
  | .cons _ b => b.len + 1
  | _ => 0

def den (G : Gam) : T → Den
  | .nil => { Den.bad with evs := nilE, ts := fun env M => .ok true env M, tks := fun ds env M => match ds with | [] => .ok () env M | _ => .stuck, ex := fun env M => .ok .next env M, ev := pureE (.val .non) }
  | .cons a b => { Den.bad with
      evs := consE (den G a).ev (den G b).evs
      ts := fun env M => (tst (den G a).ev env M).bind fun t env M => if t then (den G b).ts env M else .ok false env M
      tks := tksC (den G a).tk (den G b).tks
      ex := seqS (den G a).ex (den G b).ex }
  | .var i => { Den.bad with ev := varE i }
  | .int n => { Den.bad with ev := pureE (.val (.int n)) }
  | .bl b => { Den.bad with ev := pureE (.val (.bl b)) }
  | .non => { Den.bad with ev := pureE (.val .non) }
  | .str x => { Den.bad with ev := pureE (.val (.str x)) }
  | .con d => { Den.bad with ev := pureE (.val d) }
  | .tup es => { Den.bad with ev := tupE (den G es).evs }
  | .lst es => { Den.bad with ev := lstE (den G es).evs }
  | .dic ps => { Den.bad with ev := dicE (den G ps).evs }
  | .alc e => { Den.bad with ev := alcE (den G e).ev }
  | .bin op a b => { Den.bad with ev := binE op (den G a).ev (den G b).ev }
  | .neg a => { Den.bad with ev := un1 negO (den G a).ev }
  | .not a => { Den.bad with ev := notE (den G a).ev }
  | .cmp op a b => { Den.bad with ev := cmpE op (den G a).ev (den G b).ev }
  | .chn o1 o2 a b c => { Den.bad with ev := chnE o1 o2 (den G a).ev (den G b).ev (den G c).ev }
  | .and a b => { Den.bad with ev := andE (den G a).ev (den G b).ev }
  | .or a b => { Den.bad with ev := orE (den G a).ev (den G b).ev }
  | .ife c a b => { Den.bad with ev := ifeE (den G c).ev (den G a).ev (den G b).ev }
  | .sub a i => { Den.bad with ev := subE (den G a).ev (den G i).ev, tk := fun _ _ _ => .stuck }
  | .slc a lo hi => { Den.bad with ev := slcE (den G a).ev (den G lo).ev (den G hi).ev }
  | .rev a => { Den.bad with ev := un1 revO (den G a).ev }
  | .sdf o k e => { Den.bad with ev := sdfE (den G o).ev (den G k).ev (den G e).ev }
  | .call f es => { Den.bad with ev := callE G f (den G es).evs }
  | .blt f es => { Den.bad with ev := bltE f (den G es).evs }
  | .met m o es => { Den.bad with ev := metE m (den G o).ev (den G es).evs }
  | .lc own elt cl => { Den.bad with ev := inBlk own ((den G cl).cl (emitE (den G elt).ev) []) (fun l => some (.own (.lst l))) }
  | .sc own elt cl => { Den.bad with ev := inBlk own ((den G cl).cl (emitS (den G elt).ev) []) (fun l => some (.own (.set l))) }
  | .dc own k v cl => { Den.bad with ev := inBlk own ((den G cl).cl (emitK (den G k).ev (den G v).ev) []) (fun l => (pairs l).map fun kvs => .own (.dic kvs)) }
  | .cz => { Den.bad with cl := fun emit => emit }
  | .cl tg it ifs rest => { Den.bad with cl := clE (den G tg).tk (den G it).it (den G ifs).ts (den G rest).cl }
  | .itr e => { Den.bad with it := iterE (den G e).ev }
  | .rng es => { Den.bad with it := rngE (den G es).evs }
  | .zip es => { Den.bad with it := zipE (den G es).evs, ev := fun env M => (zipE (den G es).evs env M).bind fun l env M => .ok (.own (.lst l.1)) env M }
  | .enu e => { Den.bad with it := enuE (den G e).ev }
  | .itm e => { Den.bad with it := itmE (den G e).ev }
  | .vls e => { Den.bad with it := vlsE (den G e).ev }
  | .srt e i key => { Den.bad with ev := srtE (den G e).ev i (den G key).ev }
  | .tvar own i => { Den.bad with tk := fun d => asgV false i (.val d), asg := asgV own i }
  | .ttup ts => { Den.bad with tk := tkT ts.len (den G ts).tks, asg := asgD (tkT ts.len (den G ts).tks) }
  | .tstr b ts a => { Den.bad with tk := tkS b a (den G ts).tks, asg := asgD (tkS b a (den G ts).tks) }
  | .tsub o i => { Den.bad with tk := tkSub (den G o).ev (den G i).ev, asg := asgD (tkSub (den G o).ev (den G i).ev) }
  | .asg tg e => { Den.bad with ex := asgE (den G tg).asg (den G e).ev }
  | .exp e => { Den.bad with ex := expE (den G e).ev }
  | .ret e => { Den.bad with ex := retE (den G e).ev }
  | .retn => { Den.bad with ex := fun env M => .ok (.ret (.val .non)) env M }
  | .ifs c a b => { Den.bad with ex := ifsS (den G c).ev (den G a).ex (den G b).ex }
  | .for wip tg it b => { Den.bad with ex := forS wip (den G tg).tk (den G it).it (den G b).ex }
  | .whl wip c b => { Den.bad with ex := whileN fuel wip (den G c).ev (den G b).ex }
  | .pas => { Den.bad with ex := fun env M => .ok .next env M }

/-- a def: how many parameters, how many slots, its body -/
structure Def where
  ps : Nat
  ns : Nat
  body : T
def startE (d : Def) (as : List SV) : Env := as.map some ++ List.replicate (d.ns - as.length) none
def runDef (G : Gam) (d : Def) (as : List SV) (M : Mem) : Res R :=
  if as.length == d.ps then
    match (den G d.body).ex (startE d as) M with
    | .ok .next _ M' => .ok (.val .non) [] M'
    | .ok (.ret r) _ M' => .ok r [] M'
    | .exc x _ M' => .exc x [] M'
    | .stuck => .stuck
  else .stuck
def call (P : List Def) : Nat → Gam
  | 0, _, _, _ => .stuck
  | n + 1, f, as, M => match P[f]? with
    | some d => runDef (call P n) d as M
    | none => .stuck
end Iv

/-! Iv: what the model's state has to do with the interpreter's. -/
namespace Iv
open PySem PySem.Spec PyProof.Rows L2

/-- a dict or a set, told by its very object -/
def rawO (a : Addr) (ob : Obj) : HO := .ext fun h => h.get? a = some ob
/-- what is never changed again -/
def Fz : HO → Prop
  | .tup _ => True
  | .frz _ _ => True
  | _ => False
/-- what was never to be changed stands -/
def FzE (H H' : Hp) : Prop := ∀ b o, H b = some o → Fz o → H' b = some o
theorem FzE.refl (H : Hp) : FzE H H := fun _ _ h _ => h
theorem FzE.trans {H H1 H2 : Hp} (a : FzE H H1) (b : FzE H1 H2) : FzE H H2 := fun c o h f => b c o (a c o h f) f
theorem FzE.of_same {H H' : Hp} (s : Same H H') : FzE H H' := fun b o h _ => s b o h
theorem FzE.upd {H : Hp} {a : Addr} {o : HO} (h : ∀ u, H a = some u → ¬ Fz u) : FzE H (upd H a o) := fun b u e f => by
  have hb : b ≠ a := fun z => h u (by rw [← z]; exact e) f
  rw [upd_ne hb]; exact e

mutual
/-- the key that data is -/
def nk : D → NestedKey
  | .non => .none
  | .bl b => .num (if b = true then 1 else 0)
  | .int i => .num i
  | .str x => .text x
  | .tup xs => .tup (nks xs)
  | .fl _ => .none
  | .fd _ => .none
  | .ref _ => .none
def nks : List D → List NestedKey
  | [] => []
  | x :: xs => nk x :: nks xs
end

section
variable (w : World) (K : PySem.W.Frag)
/-- a list that is never changed again -/
def FlAt (H : Hp) (a : Addr) (vs : List V) : Prop := (∃ o, H a = some (.frz o (.lst vs))) ∨ ∃ (o : Obj) (its : Array Value) (n : Nat), K.lookup a = some o ∧ o.cls = .type "list" ∧ o.dict = none ∧ o.data = .seq its n ∧ its.size ≤ sizeLine ∧ Vals vs its.toList
/-- a dict's object that is never changed again -/
def FdAt (H : Hp) (a : Addr) (ob : Obj) : Prop := ∃ o, H a = some (.frz o (rawO a ob))
mutual
/-- the value v tells the data d -/
inductive Enc (H : Hp) (μ : List Addr) : D → V → Prop
  | non : Enc H μ .non .non
  | bl (b : Bool) : Enc H μ (.bl b) (.bl b)
  | int (i : Int) : Enc H μ (.int i) (.int i)
  | str (x : Str) : Enc H μ (.str x) (.str x)
  | tup {a : Addr} {vs : List V} {ds : List D} : SqT K H a vs → Encs H μ ds vs → Enc H μ (.tup ds) (.ref a)
  | fl {a : Addr} {vs : List V} {ds : List D} : FlAt K H a vs → Encs H μ ds vs → Enc H μ (.fl ds) (.ref a)
  | fd {a : Addr} {ob : Obj} {es : Array DictEntry} {ep : Nat} {kvs : List (D × D)} : FdAt H a ob → ob.ExactDict → ob.data = .dict es ep → EncE H μ kvs es.toList → (kvs.map fun p => nk p.1).Nodup → kvs.length ≤ sizeLine →
      Enc H μ (.fd kvs) (.ref a)
  | ref {j : Nat} {a : Addr} : μ[j]? = some a → Enc H μ (.ref j) (.ref a)
inductive Encs (H : Hp) (μ : List Addr) : List D → List V → Prop
  | nil : Encs H μ [] []
  | cons {d : D} {v : V} {ds : List D} {vs : List V} : Enc H μ d v → Encs H μ ds vs → Encs H μ (d :: ds) (v :: vs)
/-- entries of a dict -/
inductive EncE (H : Hp) (μ : List Addr) : List (D × D) → List DictEntry → Prop
  | nil : EncE H μ [] []
  | cons {k d : D} {kv dv : V} {e : DictEntry} {kvs : List (D × D)} {es : List DictEntry} : Enc H μ k kv → RelV kv e.key → Enc H μ d dv → RelV dv e.val → e.hash = (nk k).hash w → k.key = true → EncE H μ kvs es →
      EncE H μ ((k, d) :: kvs) (e :: es)
end
end

section
variable {w : World} {K : PySem.W.Frag} {H H' : Hp} {μ μ' : List Addr}
theorem SqT.fz {a : Addr} {vs : List V} (f : FzE H H') (h : SqT K H a vs) : SqT K H' a vs := by
  rcases h with (h | ⟨o, h⟩) | h
  · exact .inl (.inl (f _ _ h trivial))
  · exact .inl (.inr ⟨o, f _ _ h trivial⟩)
  · exact .inr h
theorem FlAt.fz {a : Addr} {vs : List V} (f : FzE H H') (h : FlAt K H a vs) : FlAt K H' a vs := h.imp (fun ⟨o, h⟩ => ⟨o, f _ _ h trivial⟩) id
theorem FlAt.seq {a : Addr} {vs : List V} (h : FlAt K H a vs) : SqL K H a vs := h.imp (fun ⟨o, h⟩ => .inr ⟨o, h⟩) id
mutual
theorem Enc.mono (f : FzE H H') (m : ∀ (j : Nat) (a : Addr), μ[j]? = some a → μ'[j]? = some a) : ∀ {d : D} {v : V}, Enc w K H μ d v → Enc w K H' μ' d v
  | _, _, .non => .non
  | _, _, .bl b => .bl b
  | _, _, .int i => .int i
  | _, _, .str x => .str x
  | _, _, .tup h e => .tup (SqT.fz f h) (Encs.mono f m e)
  | _, _, .fl h e => .fl (FlAt.fz f h) (Encs.mono f m e)
  | _, _, .fd ⟨o, h⟩ h1 h2 e n l => .fd ⟨o, f _ _ h trivial⟩ h1 h2 (EncE.mono f m e) n l
  | _, _, .ref h => .ref (m _ _ h)
theorem Encs.mono (f : FzE H H') (m : ∀ (j : Nat) (a : Addr), μ[j]? = some a → μ'[j]? = some a) : ∀ {d : List D} {v : List V}, Encs w K H μ d v → Encs w K H' μ' d v
  | _, _, .nil => .nil
  | _, _, .cons h t => .cons (Enc.mono f m h) (Encs.mono f m t)
theorem EncE.mono (f : FzE H H') (m : ∀ (j : Nat) (a : Addr), μ[j]? = some a → μ'[j]? = some a) : ∀ {d : List (D × D)} {v : List DictEntry}, EncE w K H μ d v → EncE w K H' μ' d v
  | _, _, .nil => .nil
  | _, _, .cons h1 h2 h3 h4 h5 h6 t => .cons (Enc.mono f m h1) h2 (Enc.mono f m h3) h4 h5 h6 (EncE.mono f m t)
end
theorem Encs.length : ∀ {d : List D} {v : List V}, Encs w K H μ d v → d.length = v.length
  | _, _, .nil => rfl
  | _, _, .cons _ t => by simp [Encs.length t]
theorem Encs.get : ∀ {ds : List D} {vs : List V} {i : Nat} {d : D}, Encs w K H μ ds vs → ds[i]? = some d → ∃ v, vs[i]? = some v ∧ Enc w K H μ d v
  | _, _, _, _, .nil, h => by simp at h
  | _, _, 0, _, .cons h _, e => by simp at e; subst e; exact ⟨_, rfl, h⟩
  | _, _, i + 1, d, .cons _ t, e => by
    obtain ⟨v, h1, h2⟩ := Encs.get (i := i) (d := d) t (by simpa using e)
    exact ⟨v, by simpa using h1, h2⟩
theorem Encs.getV : ∀ {ds : List D} {vs : List V} {i : Nat} {v : V}, Encs w K H μ ds vs → vs[i]? = some v → ∃ d, ds[i]? = some d ∧ Enc w K H μ d v
  | _, _, _, _, .nil, h => by simp at h
  | _, _, 0, _, .cons h _, e => by simp at e; subst e; exact ⟨_, rfl, h⟩
  | _, _, i + 1, d, .cons _ t, e => by
    obtain ⟨v, h1, h2⟩ := Encs.getV (i := i) (v := d) t (by simpa using e)
    exact ⟨v, by simpa using h1, h2⟩
theorem Encs.append : ∀ {xs ys : List D} {us vs : List V}, Encs w K H μ xs us → Encs w K H μ ys vs → Encs w K H μ (xs ++ ys) (us ++ vs)
  | _, _, _, _, .nil, s => s
  | _, _, _, _, .cons h t, s => .cons h (Encs.append t s)
theorem Encs.take : ∀ {xs : List D} {us : List V} (n : Nat), Encs w K H μ xs us → Encs w K H μ (xs.take n) (us.take n)
  | _, _, 0, _ => .nil
  | _, _, _ + 1, .nil => .nil
  | _, _, n + 1, .cons h t => .cons h (Encs.take n t)
theorem Encs.drop : ∀ {xs : List D} {us : List V} (n : Nat), Encs w K H μ xs us → Encs w K H μ (xs.drop n) (us.drop n)
  | _, _, 0, h => h
  | _, _, _ + 1, .nil => .nil
  | _, _, n + 1, .cons _ t => Encs.drop n t
theorem Encs.set : ∀ {xs : List D} {us : List V} {d : D} {v : V} (n : Nat), Encs w K H μ xs us → Enc w K H μ d v → Encs w K H μ (xs.set n d) (us.set n v)
  | _, _, _, _, _, .nil, _ => .nil
  | _, _, _, _, 0, .cons _ t, h => .cons h t
  | _, _, _, _, n + 1, .cons g t, h => .cons g (Encs.set n t h)
theorem Encs.erase : ∀ {xs : List D} {us : List V} (n : Nat), Encs w K H μ xs us → Encs w K H μ (xs.eraseIdx n) (us.eraseIdx n)
  | _, _, _, .nil => .nil
  | _, _, 0, .cons _ t => t
  | _, _, n + 1, .cons h t => .cons h (Encs.erase n t)
theorem Encs.reverse : ∀ {xs : List D} {us : List V}, Encs w K H μ xs us → Encs w K H μ xs.reverse us.reverse
  | _, _, .nil => .nil
  | _, _, .cons h t => by
    rw [List.reverse_cons, List.reverse_cons]
    exact Encs.append (Encs.reverse t) (.cons h .nil)
theorem Encs.rep {xs : List D} {us : List V} (h : Encs w K H μ xs us) : ∀ n : Nat, Encs w K H μ (List.replicate n xs).flatten (List.replicate n us).flatten
  | 0 => .nil
  | n + 1 => by
    rw [List.replicate_succ, List.replicate_succ, List.flatten_cons, List.flatten_cons]
    exact Encs.append h (Encs.rep h n)
end

section
variable (w : World) (K : PySem.W.Frag)
/-- a dict's object tells the pairs -/
def IsDic (H : Hp) (μ : List Addr) (ob : Obj) (kvs : List (D × D)) : Prop :=
  ∃ es ep, ob.ExactDict ∧ ob.data = .dict es ep ∧ EncE w K H μ kvs es.toList ∧ (kvs.map fun p => nk p.1).Nodup ∧ kvs.length ≤ sizeLine
/-- an object that may be changed, at a -/
def ObAt (H : Hp) (μ : List Addr) : Ob → Addr → Prop
  | .lst ds, a => ∃ vs, H a = some (.lst vs) ∧ Encs w K H μ ds vs
  | .dic kvs, a => ∃ ob, H a = some (rawO a ob) ∧ IsDic w K H μ ob kvs
  | .set _, _ => False
  | .ins _ _, _ => False
end
section
variable {w : World} {K : PySem.W.Frag} {H H' : Hp} {μ μ' : List Addr} {a : Addr}
theorem IsDic.mono {ob : Obj} {kvs : List (D × D)} (f : FzE H H') (m : ∀ (j : Nat) (a : Addr), μ[j]? = some a → μ'[j]? = some a) (h : IsDic w K H μ ob kvs) : IsDic w K H' μ' ob kvs := by
  obtain ⟨es, ep, h1, h2, h3, h4, h5⟩ := h
  exact ⟨es, ep, h1, h2, h3.mono f m, h4, h5⟩
theorem ObAt.mono {o : Ob} (f : FzE H H') (m : ∀ (j : Nat) (a : Addr), μ[j]? = some a → μ'[j]? = some a) (e : H' a = H a) (h : ObAt w K H μ o a) : ObAt w K H' μ' o a := by
  cases o with
  | lst ds =>
    obtain ⟨vs, h1, h2⟩ := h
    exact ⟨vs, e.trans h1, h2.mono f m⟩
  | dic kvs =>
    obtain ⟨ob, h1, h2⟩ := h
    exact ⟨ob, e.trans h1, h2.mono f m⟩
  | set _ => exact h.elim
  | ins _ _ => exact h.elim
theorem ObAt.some {o : Ob} (h : ObAt w K H μ o a) : ∃ u, H a = some u ∧ ¬ Fz u ∧ Mut (some u) := by
  cases o with
  | lst ds =>
    obtain ⟨vs, h1, _⟩ := h
    exact ⟨_, h1, fun z => z, trivial⟩
  | dic kvs =>
    obtain ⟨ob, h1, _⟩ := h
    exact ⟨_, h1, fun z => z, trivial⟩
  | set _ => exact h.elim
  | ins _ _ => exact h.elim
end

/-! ### slots and memory -/
/-- b is the object of a slot of its own -/
def Owned (env : Env) (σ : L2.St) (b : Addr) : Prop := ∃ (i : Nat) (o : Ob), env[i]? = some (some (.own o)) ∧ σ[i]? = some (some (.ref b))
/-- b is the object of a slot, its own or lent -/
def Held (env : Env) (σ : L2.St) (b : Addr) : Prop := Owned env σ b ∨ ∃ (i : Nat) (o : Ob), env[i]? = some (some (.lck o)) ∧ σ[i]? = some (some (.ref b))

structure Rel (w : World) (K : PySem.W.Frag) (env : Env) (M : Mem) (μ : List Addr) (σ : L2.St) (H : Hp) : Prop where
  len : env.length = σ.length
  val : ∀ (i : Nat) (d : D), env[i]? = some (some (.val d)) → ∃ v, σ[i]? = some (some v) ∧ Enc w K H μ d v
  own : ∀ (i : Nat) (o : Ob), env[i]? = some (some (.own o)) → ∃ a, σ[i]? = some (some (.ref a)) ∧ ObAt w K H μ o a ∧ a ∉ μ
  lck : ∀ (i : Nat) (o : Ob), env[i]? = some (some (.lck o)) → ∃ a, σ[i]? = some (some (.ref a)) ∧ ObAt w K H μ o a ∧ a ∉ μ ∧ ¬ Owned env σ a
  mem : ∀ (j : Nat) (o : Ob), M[j]? = some o → ∃ a, μ[j]? = some a ∧ ObAt w K H μ o a
  mlen : M.length = μ.length
  nd : μ.Nodup
  sep : ∀ (i i' : Nat) (o o' : Ob) (a : Addr), env[i]? = some (some (.own o)) → σ[i]? = some (some (.ref a)) → env[i']? = some (some (.own o')) → σ[i']? = some (some (.ref a)) → i = i'

/-- from one state to a later one -/
structure Ext (env : Env) (μ : List Addr) (σ : L2.St) (H : Hp) (env' : Env) (μ' : List Addr) (σ' : L2.St) (H' : Hp) : Prop where
  pre : ∃ ν, μ' = μ ++ ν ∧ ∀ a ∈ ν, H a = none
  keep : ∀ b o, H b = some o → b ∉ μ → ¬ Owned env σ b → H' b = some o
  owned : ∀ b, Owned env' σ' b → Owned env σ b ∨ H b = none
  lcks : ∀ (i : Nat) (o : Ob), env'[i]? = some (some (.lck o)) → env[i]? = some (some (.lck o)) ∧ σ'[i]? = σ[i]?
  fz : FzE H H'
  dom : ∀ b, H' b = none → H b = none

section
variable {w : World} {K : PySem.W.Frag} {env env' env1 env2 : Env} {M M' : Mem} {μ μ' μ1 μ2 : List Addr} {σ σ' σ1 σ2 : L2.St} {H H' H1 H2 : Hp}
theorem Ext.mu (x : Ext env μ σ H env' μ' σ' H') : ∀ (j : Nat) (a : Addr), μ[j]? = some a → μ'[j]? = some a := by
  obtain ⟨ν, e, _⟩ := x.pre
  intro j a h
  rw [e, List.getElem?_append_left (List.getElem?_eq_some_iff.mp h).1]
  exact h
theorem Ext.notMu (x : Ext env μ σ H env' μ' σ' H') {a : Addr} {o : HO} (h : H a = some o) (n : a ∉ μ) : a ∉ μ' := by
  obtain ⟨ν, e, f⟩ := x.pre
  rw [e, List.mem_append]
  rintro (z | z)
  · exact n z
  · rw [f a z] at h; cases h
theorem Ext.refl : Ext env μ σ H env μ σ H := ⟨⟨[], by simp⟩, fun _ _ h _ _ => h, fun _ h => .inl h, fun _ _ h => ⟨h, rfl⟩, FzE.refl _, fun _ h => h⟩
theorem Ext.trans (x : Ext env μ σ H env1 μ1 σ1 H1) (y : Ext env1 μ1 σ1 H1 env2 μ2 σ2 H2) : Ext env μ σ H env2 μ2 σ2 H2 where
  pre := by
    obtain ⟨ν, e, f⟩ := x.pre
    obtain ⟨ν2, e2, f2⟩ := y.pre
    refine ⟨ν ++ ν2, by rw [e2, e, List.append_assoc], fun a ha => ?_⟩
    rcases List.mem_append.mp ha with z | z
    · exact f a z
    · exact x.dom a (f2 a z)
  keep := fun b o h n no => y.keep b o (x.keep b o h n no) (x.notMu h n) fun z => by
    rcases x.owned b z with z | z
    · exact no z
    · rw [z] at h; cases h
  owned := fun b h => by
    rcases y.owned b h with z | z
    · exact x.owned b z
    · exact .inr (x.dom b z)
  lcks := fun i o h => by
    obtain ⟨a, b⟩ := y.lcks i o h
    obtain ⟨c, d⟩ := x.lcks i o a
    exact ⟨c, b.trans d⟩
  fz := x.fz.trans y.fz
  dom := fun b h => x.dom b (y.dom b h)
/-- the heap has grown, nothing else -/
theorem Ext.grow (s : Same H H') : Ext env μ σ H env μ σ H' := ⟨⟨[], by simp⟩, fun b o h _ _ => s b o h, fun _ h => .inl h, fun _ _ h => ⟨h, rfl⟩, FzE.of_same s, fun b h => s.free h⟩
theorem Rel.grow (r : Rel w K env M μ σ H) (s : Same H H') : Rel w K env M μ σ H' := by
  have f := FzE.of_same s
  have at' : ∀ {o : Ob} {a : Addr}, ObAt w K H μ o a → ObAt w K H' μ o a := fun {o a} h => by
    obtain ⟨u, e, _⟩ := h.some
    exact h.mono f (fun _ _ z => z) ((s _ _ e).trans e.symm)
  refine ⟨r.len, fun i d h => ?_, fun i o h => ?_, fun i o h => ?_, fun j o h => ?_, r.mlen, r.nd, r.sep⟩
  · obtain ⟨v, a, b⟩ := r.val i d h
    exact ⟨v, a, b.mono f fun _ _ z => z⟩
  · obtain ⟨a, b, c, d⟩ := r.own i o h
    exact ⟨a, b, at' c, d⟩
  · obtain ⟨a, b, c, d⟩ := r.lck i o h
    exact ⟨a, b, at' c, d⟩
  · obtain ⟨a, b, c⟩ := r.mem j o h
    exact ⟨a, b, at' c⟩
theorem Rel.memAt (r : Rel w K env M μ σ H) {a : Addr} (h : a ∈ μ) : ∃ u, H a = some u ∧ ¬ Fz u ∧ Mut (some u) := by
  obtain ⟨j, hj, e⟩ := List.mem_iff_getElem.mp h
  have hj' : j < M.length := by rw [r.mlen]; exact hj
  obtain ⟨b, h1, h2⟩ := r.mem j M[j] (List.getElem?_eq_getElem hj')
  have : b = a := by
    rw [List.getElem?_eq_getElem hj] at h1
    exact (Option.some.inj h1).symm.trans e
  subst this
  exact h2.some
theorem Rel.heldAt (r : Rel w K env M μ σ H) {a : Addr} (h : Held env σ a) : (∃ u, H a = some u ∧ ¬ Fz u ∧ Mut (some u)) ∧ a ∉ μ := by
  rcases h with ⟨i, o, h1, h2⟩ | ⟨i, o, h1, h2⟩
  · obtain ⟨b, c, d, e⟩ := r.own i o h1
    rw [h2] at c; cases c
    exact ⟨d.some, e⟩
  · obtain ⟨b, c, d, e, _⟩ := r.lck i o h1
    rw [h2] at c; cases c
    exact ⟨d.some, e⟩
/-- what stands and is not changeable is not of the memory, nor of a slot -/
theorem Rel.new (r : Rel w K env M μ σ H) {a : Addr} (h : H a = none) : a ∉ μ ∧ ¬ Held env σ a := by
  refine ⟨fun z => ?_, fun z => ?_⟩
  · obtain ⟨u, e, _⟩ := r.memAt z
    rw [h] at e; cases e
  · obtain ⟨⟨u, e, _⟩, _⟩ := r.heldAt z
    rw [h] at e; cases e

/-! ### values of expressions -/
/-- the value v tells the result r -/
def RRep (w : World) (K : PySem.W.Frag) (env : Env) (μ : List Addr) (σ : L2.St) (H : Hp) : R → V → Prop
  | .val d, v => Enc w K H μ d v
  | .own o, v => ∃ a, v = .ref a ∧ ObAt w K H μ o a ∧ a ∉ μ ∧ ¬ Held env σ a
  | .lnd i, v => σ[i]? = some (some v) ∧ ∃ x : SV, env[i]? = some (some x) ∧ ∀ d, x ≠ .val d
/-- a new object was not there -/
def Fresh (H : Hp) : R → V → Prop
  | .own _, v => ∀ a, v = .ref a → H a = none
  | _, _ => True
theorem Held.ext (x : Ext env μ σ H env' μ' σ' H') {a : Addr} {o : HO} (h : H a = some o) (n : ¬ Held env σ a) : ¬ Held env' σ' a := by
  rintro (z | ⟨i, o, z1, z2⟩)
  · rcases x.owned a z with z | z
    · exact n (.inl z)
    · rw [z] at h; cases h
  · obtain ⟨y1, y2⟩ := x.lcks i o z1
    exact n (.inr ⟨i, o, y1, y2 ▸ z2⟩)
/-- a result behind a later evaluation of expressions (the slots stay) -/
theorem RRep.ext {r : R} {v : V} (h : RRep w K env μ σ H r v) (x : Ext env μ σ H env' μ' σ H') (k : ∀ (i : Nat) (y : SV), env[i]? = some (some y) → (∀ d, y ≠ .val d) → ∃ z : SV, env'[i]? = some (some z) ∧ ∀ d, z ≠ .val d) : RRep w K env' μ' σ H' r v := by
  cases r with
  | val d => exact h.mono x.fz x.mu
  | own o =>
    obtain ⟨a, rfl, b, c, d⟩ := h
    obtain ⟨u, e, _⟩ := b.some
    refine ⟨a, rfl, b.mono x.fz x.mu ((x.keep a u e c fun z => d (.inl z)).trans e.symm), x.notMu e c, Held.ext x e d⟩
  | lnd i =>
    obtain ⟨h1, y, h2, h3⟩ := h
    obtain ⟨z, h4, h5⟩ := k i y h2 h3
    exact ⟨h1, z, h4, h5⟩
end
end Iv

/-! Iv: what the interpreter says of expressions holds of the model. -/
namespace Iv
open PySem PySem.Spec PyProof.Rows L2

/-- what a proof is about: the world, the written part, how exceptions are told, what is wanted of them -/
structure Pm where
  w : World
  K : PySem.W.Frag
  xr : Ex → Value → Option Addr → Hp → Prop
  W : WX
/-- the expression leaves every slot but the content of the frame's own objects -/
def SK (env env' : Env) : Prop := ∀ i : Nat, env'[i]? = env[i]? ∨ ∃ o o' : Ob, env[i]? = some (some (.own o)) ∧ env'[i]? = some (some (.own o'))
theorem SK.refl (env : Env) : SK env env := fun _ => .inl rfl
theorem SK.trans {a b c : Env} (h : SK a b) (g : SK b c) : SK a c := fun i => by
  rcases h i with e | ⟨o, o', e1, e2⟩
  · rcases g i with f | ⟨q, q', f1, f2⟩
    · exact .inl (f.trans e)
    · exact .inr ⟨q, q', e ▸ f1, f2⟩
  · rcases g i with f | ⟨q, q', f1, f2⟩
    · exact .inr ⟨o, o', e1, f.trans e2⟩
    · exact .inr ⟨o, q', e1, f2⟩

def ExcOk (p : Pm) (σ : L2.St) (H : Hp) (env : Env) (μ : List Addr) (x : Ex) (env' : Env) (M' : Mem) : Prop :=
  ∀ (cls : Value) (d : Option Addr) (σ' : L2.St) (H' : Hp) (μ' : List Addr), Rel p.w p.K env' M' μ' σ' H' → p.xr x cls d H' → Ext env μ σ H env' μ' σ' H' → p.W cls d σ' H'
def Out {α : Type} (p : Pm) (σ : L2.St) (H : Hp) (env : Env) (μ : List Addr) (res : Res α) (P : α → Env → Mem → Prop) : Prop :=
  match res with
  | .stuck => False
  | .ok a env' M' => P a env' M'
  | .exc x env' M' => ExcOk p σ H env μ x env' M'
/-- what stands behind an expression -/
structure Got (p : Pm) (σ : L2.St) (H : Hp) (env : Env) (μ : List Addr) (r : R) (env' : Env) (M' : Mem) (v : V) (H' : Hp) (μ' : List Addr) : Prop where
  rel : Rel p.w p.K env' M' μ' σ H'
  sk : SK env env'
  rep : RRep p.w p.K env' μ' σ H' r v
  ext : Ext env μ σ H env' μ' σ H'
  new : Fresh H r v
def Post (p : Pm) (σ : L2.St) (H : Hp) (env : Env) (μ : List Addr) (Q : VK) (r : R) (env' : Env) (M' : Mem) : Prop :=
  ∀ v H' μ', Got p σ H env μ r env' M' v H' μ' → Q v H'
def tE (p : Pm) (f : Ev) : TE := fun σ H Q => ∃ env M μ, Rel p.w p.K env M μ σ H ∧ Out p σ H env μ (f env M) (Post p σ H env μ Q)
abbrev JE (p : Pm) (X : Cx) (e : Expr) (f : Ev) : Prop := PE X e (tE p f)

section
variable {p : Pm} {σ : L2.St} {H H1 : Hp} {env env1 : Env} {M M1 : Mem} {μ μ1 : List Addr} {α β : Type}
theorem Out.bind {res : Res α} {k : α → Env → Mem → Res β} {P : β → Env → Mem → Prop} (h : Out p σ H env μ (res.bind k) P) : Out p σ H env μ res fun a env1 M1 => Out p σ H env μ (k a env1 M1) P := by
  cases res with
  | stuck => exact h
  | ok a env1 M1 => exact h
  | exc x env1 M1 => exact h
theorem Out.imp {res : Res α} {P P' : α → Env → Mem → Prop} (h : Out p σ H env μ res P) (i : ∀ a env1 M1, P a env1 M1 → P' a env1 M1) : Out p σ H env μ res P' := by
  cases res with
  | stuck => exact h
  | ok a env1 M1 => exact i _ _ _ h
  | exc x env1 M1 => exact h
theorem Out.shift {σ1 : L2.St} {res : Res α} {P : α → Env → Mem → Prop} (x : Ext env μ σ H env1 μ1 σ1 H1) (h : Out p σ H env μ res P) : Out p σ1 H1 env1 μ1 res P := by
  cases res with
  | stuck => exact h
  | ok a env1 M1 => exact h
  | exc y env2 M2 => exact fun cls d σ' H' μ' r q e => h cls d σ' H' μ' r q (x.trans e)
theorem vwK_out {r : R} {k : Vw → Env → Mem → Res α} {P : α → Env → Mem → Prop} (h : Out p σ H env μ (vwK r k env1 M) P) : ∃ v, vw env1 M r = some v ∧ Out p σ H env μ (k v env1 M) P := by
  unfold vwK at h
  split at h
  · rename_i v e; exact ⟨v, e, h⟩
  · exact h.elim
theorem optE_out {o : Option R} {P : R → Env → Mem → Prop} (h : Out p σ H env μ (optE o env1 M) P) : ∃ r, o = some r ∧ P r env1 M := by
  unfold optE at h
  cases o with
  | some r => exact ⟨r, rfl, h⟩
  | none => exact h.elim
theorem ofO_out {o : Option α} {P : α → Env → Mem → Prop} (h : Out p σ H env μ (Res.ofO o env1 M) P) : ∃ r, o = some r ∧ P r env1 M := by
  unfold Res.ofO at h
  cases o with
  | some r => exact ⟨r, rfl, h⟩
  | none => exact h.elim
end

section
variable {p : Pm} {X : Cx} {σ : L2.St} {H H1 : Hp} {env env1 : Env} {M M1 : Mem} {μ μ1 : List Addr} {pins : List (Addr × Obj)} {s : Shared} {a b c : Expr} {fa fb fc : Ev} {pos : Pos}
theorem JE.of {e : Expr} {f : Ev} (h : ∀ (pins : List (Addr × Obj)) (s : Shared) (σ : L2.St) (H : Hp) (Q : VK) (env : Env) (M : Mem) (μ : List Addr), Inv X pins σ H s → Rel p.w p.K env M μ σ H → Out p σ H env μ (f env M) (Post p σ H env μ Q) →
    wpAny (model X.prog X.w) X.A (eval e X.env) (EP X pins σ Q) X.xe s) : JE p X e f :=
  ⟨fun pins s σ H Q I ⟨env, M, μ, r, o⟩ => h pins s σ H Q env M μ I r o⟩
/-- a part is evaluated -/
theorem JE.go (h : JE p X a fa) {P : R → Env → Mem → Prop} (I : Inv X pins σ H s) (r : Rel p.w p.K env M μ σ H) (o : Out p σ H env μ (fa env M) P) :
    wpAny (model X.prog X.w) X.A (eval a X.env) (fun u s1 => ∃ v r env1 M1 H1 μ1, Inv X pins σ H1 s1 ∧ RelV v u ∧ Got p σ H env μ r env1 M1 v H1 μ1 ∧ P r env1 M1) X.xe s := by
  refine thn (h.run pins s σ H (fun v H1 => ∃ r env1 M1 μ1, Got p σ H env μ r env1 M1 v H1 μ1 ∧ P r env1 M1) I ⟨env, M, μ, r, o.imp fun r env1 M1 q v H1 μ1 g => ⟨r, env1, M1, μ1, g, q⟩⟩) fun u s1 q => ?_
  obtain ⟨v, H1, I1, rv, r1, env1, M1, μ1, g, q⟩ := q
  exact ⟨v, r1, env1, M1, H1, μ1, I1, rv, g, q⟩
theorem SK.kind (k : SK env env1) : ∀ (i : Nat) (y : SV), env[i]? = some (some y) → (∀ d, y ≠ .val d) → ∃ z : SV, env1[i]? = some (some z) ∧ ∀ d, z ≠ .val d := fun i y h n => by
  rcases k i with e | ⟨o, o', e1, e2⟩
  · exact ⟨y, e.trans h, n⟩
  · exact ⟨_, e2, fun d z => by cases z⟩
/-- an earlier value behind a later evaluation -/
theorem RRep.later {r : R} {v : V} {r2 : R} {v2 : V} (h : RRep p.w p.K env μ σ H r v) (g : Got p σ H env μ r2 env1 M1 v2 H1 μ1) : RRep p.w p.K env1 μ1 σ H1 r v := h.ext g.ext g.sk.kind
theorem Fresh.back {env' : Env} {μ' : List Addr} {r : R} {v : V} (x : Ext env μ σ H env1 μ1 σ H1) (h : Fresh H1 r v) : Fresh H r v := by
  cases r with
  | own o => exact fun a e => x.dom a (h a e)
  | val d => trivial
  | lnd i => trivial
theorem Got.after {r1 r2 : R} {v1 v2 : V} {env2 : Env} {M2 : Mem} {H2 : Hp} {μ2 : List Addr} (g : Got p σ H env μ r1 env1 M1 v1 H1 μ1) (g2 : Got p σ H1 env1 μ1 r2 env2 M2 v2 H2 μ2) : Got p σ H env μ r2 env2 M2 v2 H2 μ2 :=
  ⟨g2.rel, g.sk.trans g2.sk, g2.rep, g.ext.trans g2.ext, Fresh.back (env' := env) (μ' := μ) g.ext g2.new⟩
/-- nothing was done but that objects were made -/
theorem Got.made {r : R} {v : V} (rel : Rel p.w p.K env M μ σ H) (s : Same H H1) (h : RRep p.w p.K env μ σ H1 r v) (f : Fresh H r v) : Got p σ H env μ r env M v H1 μ :=
  ⟨rel.grow s, SK.refl _, h, Ext.grow s, f⟩
end

/-! ### names, constants -/
section
variable {p : Pm} {X : Cx} {σ : L2.St} {H H1 : Hp} {env env1 : Env} {M M1 : Mem} {μ μ1 : List Addr} {a b c : Expr} {fa fb fc : Ev} {pos : Pos}
theorem je_var {i : Nat} {x : PySem.Str} (hN : X.N[i]? = some x) (hv : Vis X.env.scope x) (hd : (x == ("__debug__" : PySem.Str)) = false) (hcd : (x == ("__classdict__" : PySem.Str)) = false) : JE p X (.Name x pos) (varE i) := by
  refine JE.of fun pins s σ H Q env M μ I r o => (pe_var hN hv hd hcd).run pins s σ H Q I ?_
  unfold varE at o
  split at o
  · rename_i d e
    obtain ⟨v, h1, h2⟩ := r.val i d e
    exact ⟨v, h1, o v H μ ⟨r, SK.refl _, h2, Ext.refl, trivial⟩⟩
  · rename_i x n e
    have lend : ∀ a, σ[i]? = some (some (.ref a)) → Q (.ref a) H := fun a h => o (.ref a) H μ ⟨r, SK.refl _, ⟨h, x, e, fun d z => n d z⟩, Ext.refl, trivial⟩
    cases x with
    | val d => exact absurd rfl (n d)
    | own ob =>
      obtain ⟨a, h1, _⟩ := r.own i ob e
      exact ⟨_, h1, lend a h1⟩
    | lck ob =>
      obtain ⟨a, h1, _⟩ := r.lck i ob e
      exact ⟨_, h1, lend a h1⟩
  · exact o.elim
theorem je_con {e : Expr} {v : V} {d : D} (h : PE X e (tC v)) (hd : ∀ H μ, Enc p.w p.K H μ d v) : JE p X e (pureE (.val d)) :=
  JE.of fun pins s σ H Q env M μ I r o => h.run pins s σ H Q I (o v H μ ⟨r, SK.refl _, hd H μ, Ext.refl, trivial⟩)
theorem je_int {n : Int} {k : Nat} : JE p X (.Constant (.int n) k pos) (pureE (.val (.int n))) := je_con pe_int fun _ _ => .int n
theorem je_bl {n : Bool} {k : Nat} : JE p X (.Constant (.bool n) k pos) (pureE (.val (.bl n))) := je_con pe_bl fun _ _ => .bl n
theorem je_non {k : Nat} : JE p X (.Constant .none k pos) (pureE (.val .non)) := je_con pe_non fun _ _ => .non
theorem je_str {n : PySem.Str} {k : Nat} : JE p X (.Constant (.str n) k pos) (pureE (.val (.str n))) := je_con pe_str fun _ _ => .str n
end

/-! ### views -/
/-- what may be read at a -/
def RdRaw (H : Hp) (a : Addr) (ob : Obj) : Prop := Rd H a (rawO a ob)
/-- the value v shows this -/
def VAt (w : World) (K : PySem.W.Frag) (H : Hp) (μ : List Addr) : Vw → V → Prop
  | .dat d, v => Enc w K H μ d v ∧ (match d with | .fl _ => False | .fd _ => False | .ref _ => False | _ => True)
  | .obj (.lst ds), v => ∃ a vs, v = .ref a ∧ SqL K H a vs ∧ Encs w K H μ ds vs
  | .obj (.dic kvs), v => ∃ a ob, v = .ref a ∧ RdRaw H a ob ∧ IsDic w K H μ ob kvs
  | .obj _, _ => False
section
variable {w : World} {K : PySem.W.Frag} {env : Env} {M : Mem} {μ : List Addr} {σ : L2.St} {H : Hp}
theorem ObAt.view {o : Ob} {a : Addr} (h : ObAt w K H μ o a) : VAt w K H μ (.obj o) (.ref a) := by
  cases o with
  | lst ds => obtain ⟨vs, h1, h2⟩ := h; exact ⟨a, vs, rfl, .inl (.inl h1), h2⟩
  | dic kvs => obtain ⟨ob, h1, h2⟩ := h; exact ⟨a, ob, rfl, .inl h1, h2⟩
  | set _ => exact h.elim
  | ins _ _ => exact h.elim
theorem RRep.view {r : R} {v : V} {x : Vw} (rel : Rel w K env M μ σ H) (h : RRep w K env μ σ H r v) (e : vw env M r = some x) : VAt w K H μ x v := by
  cases r with
  | val d =>
    have h : Enc w K H μ d v := h
    cases d with
    | ref j =>
      cases h with
      | ref hj =>
        simp only [vw] at e
        split at e
        · rename_i o ho
          cases e
          obtain ⟨a, h1, h2⟩ := rel.mem j o ho
          rw [hj] at h1; cases h1
          exact h2.view
        · cases e
    | fl xs =>
      simp only [vw] at e; cases e
      cases h with
      | fl h1 h2 => exact ⟨_, _, rfl, h1.seq, h2⟩
    | fd kvs =>
      simp only [vw] at e; cases e
      cases h with
      | fd h1 h2 h3 h4 h5 h6 => obtain ⟨o, h1⟩ := h1; exact ⟨_, _, rfl, .inr ⟨o, h1⟩, _, _, h2, h3, h4, h5, h6⟩
    | non => simp only [vw] at e; cases e; exact ⟨h, trivial⟩
    | bl _ => simp only [vw] at e; cases e; exact ⟨h, trivial⟩
    | int _ => simp only [vw] at e; cases e; exact ⟨h, trivial⟩
    | str _ => simp only [vw] at e; cases e; exact ⟨h, trivial⟩
    | tup _ => simp only [vw] at e; cases e; exact ⟨h, trivial⟩
  | own o =>
    simp only [vw] at e; cases e
    obtain ⟨a, rfl, h1, _⟩ := h
    exact h1.view
  | lnd i =>
    obtain ⟨h1, _⟩ := h
    simp only [vw] at e
    split at e
    · rename_i o ho
      cases e
      obtain ⟨a, h2, h3, _⟩ := rel.own i o ho
      rw [h1] at h2; cases h2
      exact h3.view
    · rename_i o ho
      cases e
      obtain ⟨a, h2, h3, _⟩ := rel.lck i o ho
      rw [h1] at h2; cases h2
      exact h3.view
    · cases e
end

/-! ### two places -/
/-- an operation of two values that makes objects at the most -/
def OpS (p : Pm) (X : Cx) (f : Value → Value → Sem Value) (g : Mem → Vw → Vw → Option R) : Prop :=
  ∀ (pins : List (Addr × Obj)) (s : Shared) (σ : L2.St) (H : Hp) (env : Env) (M : Mem) (μ : List Addr) (x y : V) (v u : Value) (a b : Vw) (r : R) (Q : VK), Inv X pins σ H s → Rel p.w p.K env M μ σ H → VAt p.w p.K H μ a x → VAt p.w p.K H μ b y →
    RelV x v → RelV y u → g M a b = some r → (∀ z H', Same H H' → RRep p.w p.K env μ σ H' r z → Fresh H r z → Q z H') → wpAny (model X.prog X.w) X.A (f v u) (EP X pins σ Q) X.xe s
section
variable {p : Pm} {X : Cx} {a b c : Expr} {fa fb fc : Ev} {pos : Pos}
theorem bin2_go {f : Value → Value → Sem Value} {g : Mem → Vw → Vw → Option R} (ha : JE p X a fa) (hb : JE p X b fb) (hf : OpS p X f g) {pins : List (Addr × Obj)} {s : Shared} {σ : L2.St} {H : Hp} {Q : VK} {env : Env} {M : Mem} {μ : List Addr}
    (I : Inv X pins σ H s) (r : Rel p.w p.K env M μ σ H) (o : Out p σ H env μ (bin2 (fun _ => g) fa fb env M) (Post p σ H env μ Q)) :
    wpAny (model X.prog X.w) X.A (eval a X.env) (fun v s₁ => wpAny (model X.prog X.w) X.A (eval b X.env) (fun u s₂ => wpAny (model X.prog X.w) X.A (f v u) (EP X pins σ Q) X.xe s₂) X.xe s₁) X.xe s := by
  unfold bin2 at o
  refine thn (ha.go I r o.bind) fun v s1 ⟨x, r1, env1, M1, H1, μ1, I1, rx, g1, o1⟩ => ?_
  refine thn (hb.go I1 g1.rel (o1.shift g1.ext).bind) fun u s2 ⟨y, r2, env2, M2, H2, μ2, I2, ry, g2, o2⟩ => ?_
  have rep1 := g1.rep.later g2
  revert o2
  split
  · rename_i v1 v2 e1 e2
    intro o2
    obtain ⟨r3, e3, q⟩ := optE_out o2
    refine hf pins s2 σ H2 env2 M2 μ2 x y v u v1 v2 r3 Q I2 g2.rel (rep1.view g2.rel e1) (g2.rep.view g2.rel e2) rx ry e3 fun z H' sm rz fz => ?_
    exact q z H' μ2 (g1.after (g2.after (Got.made g2.rel sm rz fz)))
  · exact fun o2 => o2.elim
theorem je_bin {op : Operator} {bo : Bop} (ho : OpS p X (binaryOp op) (fun _ => binO bo)) (ha : JE p X a fa) (hb : JE p X b fb) : JE p X (.BinOp a op b pos) (binE bo fa fb) :=
  JE.of fun _ _ _ _ _ _ _ _ I r o => wpAny_BinOp (bin2_go ha hb ho I r o)
theorem je_cmp {op : CmpOp} {co : Cop} (ho : OpS p X (compareOp op) (fun M v w => (cmpO M co v w).map fun c => .val (.bl c))) (ha : JE p X a fa) (hb : JE p X b fb) (hm : behindInMarks op b = false) : JE p X (.Compare a [op] [b] pos) (cmpE co fa fb) :=
  JE.of fun _ _ _ _ _ _ _ _ I r o => wpAny_Compare1 (bin2_go ha hb ho I r o) hm
end
end Iv

/-! Iv: operators, comparisons, subscripts. -/
namespace Iv
open PySem PySem.Spec PyProof.Rows L2

/-! ### data as the library's -/
mutual
theorem toP_ok : ∀ (n : Nat) (d : D), D.pureN n d = true → (D.toP d).canLay0 = true ∧ (D.toP d).depth ≤ n
  | n, .non, _ => ⟨rfl, Nat.zero_le _⟩
  | n, .bl _, _ => ⟨rfl, Nat.zero_le _⟩
  | n, .int _, _ => ⟨rfl, Nat.zero_le _⟩
  | n, .str x, h => ⟨by simpa [D.pureN, D.toP, PyData.canLay0] using h, Nat.zero_le _⟩
  | 0, .tup _, h => by simp [D.pureN] at h
  | 0, .fl _, h => by simp [D.pureN] at h
  | 0, .fd _, h => by simp [D.pureN] at h
  | 0, .ref _, h => by simp [D.pureN] at h
  | n + 1, .tup xs, h => by
    obtain ⟨h1, h2⟩ := toPs_ok n xs (by simpa [D.pureN] using h)
    refine ⟨by simpa [D.toP, PyData.canLay0] using h1, ?_⟩
    simp only [D.toP, PyData.depth]; omega
  | n + 1, .fl xs, h => by
    obtain ⟨h1, h2⟩ := toPs_ok n xs (by simpa [D.pureN] using h)
    refine ⟨by simpa [D.toP, PyData.canLay0] using h1, ?_⟩
    simp only [D.toP, PyData.depth]; omega
  | n + 1, .fd _, h => by simp [D.pureN] at h
  | n + 1, .ref _, h => by simp [D.pureN] at h
theorem toPs_ok : ∀ (n : Nat) (d : List D), D.pureNs n d = true → PyData.canLayAll0 (D.toPs d) = true ∧ PyData.depthAll (D.toPs d) ≤ n
  | n, [], _ => ⟨rfl, by simp [D.toPs, PyData.depthAll]⟩
  | n, x :: xs, h => by
    simp only [D.pureNs, Bool.and_eq_true] at h
    obtain ⟨h1, h2⟩ := toP_ok n x h.1
    obtain ⟨h3, h4⟩ := toPs_ok n xs h.2
    refine ⟨by simp [D.toPs, PyData.canLayAll0, h1, h3], ?_⟩
    simp only [D.toPs, PyData.depthAll]; omega
end

mutual
theorem eqp_toP : ∀ (n m : Nat) (x y : D), D.pureN n x = true → D.pureN m y = true → PyData.eqv (D.toP x) (D.toP y) = D.eqp x y
  | n, m, x, y, hx, hy => by
    cases x <;> cases y <;> first
      | rfl
      | (simp only [D.toP, PyData.eqv, D.eqp]; done)
      | (cases n <;> (simp only [D.pureN] at hx; cases hx; done))
      | (cases m <;> (simp only [D.pureN] at hy; cases hy; done))
      | (cases n with
         | zero => simp only [D.pureN] at hx; cases hx
         | succ n =>
           cases m with
           | zero => simp only [D.pureN] at hy; cases hy
           | succ m => simp only [D.toP, PyData.eqv, D.eqp]; exact eqps_toP n m _ _ (by simpa [D.pureN] using hx) (by simpa [D.pureN] using hy))
theorem eqps_toP : ∀ (n m : Nat) (x y : List D), D.pureNs n x = true → D.pureNs m y = true → PyData.eqvAll (D.toPs x) (D.toPs y) = D.eqps x y
  | n, m, [], [], _, _ => rfl
  | n, m, [], _ :: _, _, _ => rfl
  | n, m, _ :: _, [], _, _ => rfl
  | n, m, x :: xs, y :: ys, hx, hy => by
    simp only [D.pureNs, Bool.and_eq_true] at hx hy
    simp only [D.toPs, PyData.eqvAll, D.eqps]
    rw [eqp_toP n m x y hx.1 hy.1, eqps_toP n m xs ys hx.2 hy.2]
end
end Iv
namespace Iv
open PySem PySem.Spec PyProof.Rows L2
section
variable {w : World} {K : PySem.W.Frag} {H : Hp} {μ : List Addr}
mutual
theorem Enc.dp : ∀ {n : Nat} {d : D} {v : V}, Enc w K H μ d v → D.pureN n d = true → Dp K H v (D.toP d)
  | _, _, _, .non, _ => .non
  | _, _, _, .bl b, _ => .bl b
  | _, _, _, .int i, _ => .int i
  | _, _, _, .str x, _ => .str x
  | 0, _, _, .tup _ _, h => by simp [D.pureN] at h
  | 0, _, _, .fl _ _, h => by simp [D.pureN] at h
  | n + 1, _, _, .tup h e, q => .tup h (Encs.dp e (n := n) (by simpa [D.pureN] using q))
  | n + 1, _, _, .fl h e, q => .lst h.seq (Encs.dp e (n := n) (by simpa [D.pureN] using q))
  | 0, _, _, .fd _ _ _ _ _ _, h => by simp [D.pureN] at h
  | _ + 1, _, _, .fd _ _ _ _ _ _, h => by simp [D.pureN] at h
  | 0, _, _, .ref _, h => by simp [D.pureN] at h
  | _ + 1, _, _, .ref _, h => by simp [D.pureN] at h
theorem Encs.dp : ∀ {n : Nat} {d : List D} {v : List V}, Encs w K H μ d v → D.pureNs n d = true → DpAll K H v (D.toPs d)
  | _, _, _, .nil, _ => .nil
  | n, _, _, .cons h t, q => by
    simp only [D.pureNs, Bool.and_eq_true] at q
    exact .cons (Enc.dp h q.1) (Encs.dp t q.2)
end
theorem pure_up : ∀ (n m : Nat), n ≤ m → (∀ d : D, D.pureN n d = true → D.pureN m d = true) ∧ ∀ ds : List D, D.pureNs n ds = true → D.pureNs m ds = true := by
  have lst : ∀ n m : Nat, (∀ d : D, D.pureN n d = true → D.pureN m d = true) → ∀ ds : List D, D.pureNs n ds = true → D.pureNs m ds = true := fun n m h ds => by
    induction ds with
    | nil => intro _; simp [D.pureNs]
    | cons x xs ih =>
      intro q
      simp only [D.pureNs, Bool.and_eq_true] at q ⊢
      exact ⟨h x q.1, ih q.2⟩
  intro n
  induction n with
  | zero =>
    intro m _
    have one : ∀ d : D, D.pureN 0 d = true → D.pureN m d = true := fun d q => by
      cases d <;> first
        | (cases m <;> simpa [D.pureN] using q)
        | (simp [D.pureN] at q)
    exact ⟨one, lst 0 m one⟩
  | succ n ih =>
    intro m hm
    obtain ⟨m, rfl⟩ : ∃ k, m = k + 1 := ⟨m - 1, by omega⟩
    obtain ⟨_, ih2⟩ := ih m (by omega)
    have one : ∀ d : D, D.pureN (n + 1) d = true → D.pureN (m + 1) d = true := fun d q => by
      cases d <;> first
        | (simpa [D.pureN] using q)
        | (simp only [D.pureN] at q ⊢; exact ih2 _ q)
    exact ⟨one, lst _ _ one⟩
/-- a view to be compared reads as this data -/
theorem deref_dp {env : Env} {M : Mem} {σ : L2.St} (rel : Rel w K env M μ σ H) {d e : D} {v : V} (h : Enc w K H μ d v) (q : D.deref M d = some e) : Dp K H v (D.toP e) ∧ D.pureN 60 e = true := by
  unfold D.deref at q
  split at q
  · rename_i j
    split at q
    · rename_i xs hj
      split at q
      · rename_i hp
        cases q
        cases h with
        | ref ha =>
          obtain ⟨a, h1, vs, h2, h3⟩ := rel.mem j _ hj
          rw [ha] at h1; cases h1
          exact ⟨.lst (SqL.of h2) (h3.dp hp), hp⟩
      · cases q
    · cases q
  · split at q
    · rename_i hp
      cases q
      exact ⟨h.dp hp, hp⟩
    · cases q
theorem derefs_dp {env : Env} {M : Mem} {σ : L2.St} (rel : Rel w K env M μ σ H) : ∀ {ds es : List D} {vs : List V}, Encs w K H μ ds vs → ds.mapM (D.deref M) = some es → DpAll K H vs (D.toPs es) ∧ D.pureNs 60 es = true
  | [], _, _, .nil, q => by
    simp at q; subst q
    exact ⟨.nil, rfl⟩
  | d :: ds, es, _, .cons h t, q => by
    simp only [List.mapM_cons, Option.pure_def, Option.bind_eq_bind, Option.bind_eq_some_iff, Option.some.injEq] at q
    obtain ⟨e, q1, es', q2, rfl⟩ := q
    obtain ⟨h1, h2⟩ := deref_dp rel h q1
    obtain ⟨h3, h4⟩ := derefs_dp rel t q2
    exact ⟨.cons h1 h3, by simp [D.pureNs, h2, h4]⟩
theorem VAt.cmp {env : Env} {M : Mem} {σ : L2.St} (rel : Rel w K env M μ σ H) {a : Vw} {x : V} {d : D} (h : VAt w K H μ a x) (q : a.cmpD M = some d) : Dp K H x (D.toP d) ∧ D.pureN 61 d = true := by
  unfold Vw.cmpD at q
  split at q
  · split at q
    · rename_i xs hp
      cases q
      have hp' : D.pureN 60 (.tup xs) = true := hp
      exact ⟨h.1.dp hp', (pure_up 60 61 (by omega)).1 _ hp'⟩
    · cases q
  · split at q
    · rename_i hp
      cases q
      exact ⟨h.1.dp hp, (pure_up 60 61 (by omega)).1 _ hp⟩
    · cases q
  · rename_i xs
    obtain ⟨es, q1, rfl⟩ := Option.map_eq_some_iff.mp q
    obtain ⟨a, vs, rfl, h1, h2⟩ := h
    obtain ⟨h3, h4⟩ := derefs_dp rel h2 q1
    exact ⟨.lst h1 h3, by simpa [D.pureN] using h4⟩
  · cases q
theorem shaped_of {n : Nat} {d : D} (h : D.pureN n d = true) (hn : n ≤ 64) : SeqAt.shaped (D.toP d) = true := by
  obtain ⟨h1, h2⟩ := toP_ok n d h
  unfold SeqAt.shaped
  simp only [h1, Bool.true_and, decide_eq_true_eq]; omega
end
section
variable {p : Pm} {X : Cx}
theorem ops_bool {f : Value → Value → Sem Value} {g : Mem → Vw → Vw → Option Bool} (h : ∀ (pins : List (Addr × Obj)) (s : Shared) (σ : L2.St) (H : Hp) (env : Env) (M : Mem) (μ : List Addr) (x y : V) (v u : Value) (a b : Vw) (c : Bool) (Q : VK), Inv X pins σ H s → Rel p.w p.K env M μ σ H → VAt p.w p.K H μ a x → VAt p.w p.K H μ b y →
    RelV x v → RelV y u → g M a b = some c → Q (.bl c) H → wpAny (model X.prog X.w) X.A (f v u) (EP X pins σ Q) X.xe s) : OpS p X f (fun M v w => (g M v w).map fun c => .val (.bl c)) := by
  intro pins s σ H env M μ x y v u a b r Q I rel ha hb rx ry e q
  obtain ⟨c, e1, rfl⟩ := Option.map_eq_some_iff.mp e
  exact h pins s σ H env M μ x y v u a b c Q I rel ha hb rx ry e1 (q _ H (Same.refl H) (.bl c) trivial)
theorem eq_bl {pins : List (Addr × Obj)} {s : Shared} {σ : L2.St} {H : Hp} {env : Env} {M : Mem} {μ : List Addr} {x y : V} {v u : Value} {a b : Vw} {c : Bool} {Q : VK} (hK : p.K = X.K) (hu : X.A.units + 64 < cLine) (I : Inv X pins σ H s) (rel : Rel p.w p.K env M μ σ H)
    (ha : VAt p.w p.K H μ a x) (hb : VAt p.w p.K H μ b y) (rx : RelV x v) (ry : RelV y u) (e : eqO M a b = some c) (q : Q (.bl c) H) : wpAny (model X.prog X.w) X.A (compareOp .Eq v u) (EP X pins σ Q) X.xe s := by
  unfold eqO at e
  split at e
  · cases e
    obtain ⟨h1, _⟩ := ha
    obtain ⟨h2, _⟩ := hb
    cases h1; cases h2
    exact op_eq pins s σ H _ _ v u Q I rx ry ⟨rfl, by rw [dec_str]; exact q⟩
  · split at e
    · rename_i d1 d2 e1 e2
      cases e
      obtain ⟨h1, p1⟩ := ha.cmp rel e1
      obtain ⟨h2, p2⟩ := hb.cmp rel e2
      rw [hK] at h1 h2
      refine op_eqD hu pins s σ H x y v u Q I rx ry ⟨_, _, h1, h2, shaped_of p1 (by omega), shaped_of p2 (by omega), ?_⟩
      rw [eqp_toP 61 61 _ _ p1 p2]; exact q
    · cases e
theorem ne_bl {pins : List (Addr × Obj)} {s : Shared} {σ : L2.St} {H : Hp} {env : Env} {M : Mem} {μ : List Addr} {x y : V} {v u : Value} {a b : Vw} {c : Bool} {Q : VK} (hK : p.K = X.K) (hu : X.A.units + 64 < cLine) (I : Inv X pins σ H s) (rel : Rel p.w p.K env M μ σ H)
    (ha : VAt p.w p.K H μ a x) (hb : VAt p.w p.K H μ b y) (rx : RelV x v) (ry : RelV y u) (e : (eqO M a b).map not = some c) (q : Q (.bl c) H) : wpAny (model X.prog X.w) X.A (compareOp .NotEq v u) (EP X pins σ Q) X.xe s := by
  obtain ⟨c, e3, rfl⟩ := Option.map_eq_some_iff.mp e
  unfold eqO at e3
  split at e3
  · cases e3
    obtain ⟨h1, _⟩ := ha
    obtain ⟨h2, _⟩ := hb
    cases h1; cases h2
    exact op_ne pins s σ H _ _ v u Q I rx ry ⟨rfl, by rw [dec_str]; exact q⟩
  · split at e3
    · rename_i d1 d2 e1 e2
      cases e3
      obtain ⟨h1, p1⟩ := ha.cmp rel e1
      obtain ⟨h2, p2⟩ := hb.cmp rel e2
      rw [hK] at h1 h2
      refine op_neD hu pins s σ H x y v u Q I rx ry ⟨_, _, h1, h2, shaped_of p1 (by omega), shaped_of p2 (by omega), ?_⟩
      rw [eqp_toP 61 61 _ _ p1 p2]; exact q
    · cases e3
theorem ops_eq (hK : p.K = X.K) (hu : X.A.units + 64 < cLine) : OpS p X (compareOp .Eq) (fun M v w => (cmpO M .eq v w).map fun c => .val (.bl c)) := ops_bool fun _ _ _ _ _ _ _ _ _ _ _ _ _ _ _ I rel ha hb rx ry e q => eq_bl hK hu I rel ha hb rx ry e q
theorem ops_ne (hK : p.K = X.K) (hu : X.A.units + 64 < cLine) : OpS p X (compareOp .NotEq) (fun M v w => (cmpO M .ne v w).map fun c => .val (.bl c)) := ops_bool fun _ _ _ _ _ _ _ _ _ _ _ _ _ _ _ I rel ha hb rx ry e q => ne_bl hK hu I rel ha hb rx ry e q
end
end Iv

/-! Iv: operators, the further ones. -/
namespace Iv
open PySem PySem.Spec PyProof.Rows L2
mutual
theorem alike_toP : ∀ (x y : D), D.alike x y = true → PySem.W.alike (D.toP x) (D.toP y) = true
  | .non, y, h => by cases y <;> simp_all [D.alike, D.toP, PySem.W.alike]
  | .bl _, y, h => by cases y <;> simp_all [D.alike, D.toP, PySem.W.alike]
  | .int _, y, h => by cases y <;> simp_all [D.alike, D.toP, PySem.W.alike]
  | .str _, y, h => by cases y <;> simp_all [D.alike, D.toP, PySem.W.alike]
  | .tup xs, y, h => by
    cases y <;> simp only [D.alike, D.toP, PySem.W.alike] at h ⊢ <;> first | exact alikes_toP _ _ h | cases h
  | .fl xs, y, h => by
    cases y <;> simp only [D.alike, D.toP, PySem.W.alike] at h ⊢ <;> first | exact alikes_toP _ _ h | cases h
  | .fd _, y, h => by cases y <;> simp [D.alike] at h
  | .ref _, y, h => by cases y <;> simp [D.alike] at h
theorem alikes_toP : ∀ (x y : List D), D.alikes x y = true → PySem.W.alikeAll (D.toPs x) (D.toPs y) = true
  | [], y, _ => by simp [D.toPs, PySem.W.alikeAll]
  | _ :: _, [], _ => by simp [D.toPs, PySem.W.alikeAll]
  | x :: xs, y :: ys, h => by
    simp only [D.alikes, Bool.and_eq_true] at h
    simp only [D.toPs, PySem.W.alikeAll, Bool.and_eq_true]
    exact ⟨alike_toP x y h.1, alikes_toP xs ys h.2⟩
end
mutual
/-- the order of the data is the library's -/
theorem lt_toP : ∀ (n m : Nat) (x y : D) (c : Bool), D.pureN n x = true → D.pureN m y = true → D.alike x y = true → D.lt x y = some c → PySem.W.dataLt (D.toP x) (D.toP y) = c
  | n, m, .non, y, c, hx, hy, ha, h => by cases y <;> simp [D.lt] at h
  | n, m, .bl a, y, c, hx, hy, ha, h => by
    cases y <;> simp [D.lt] at h
    rename_i b
    simp only [D.toP]; rw [PySem.W.dataLt_bool]; subst h
    cases a <;> cases b <;> decide
  | n, m, .int i, y, c, hx, hy, ha, h => by
    cases y <;> simp [D.lt] at h
    simp only [D.toP]; rw [PySem.W.dataLt_int]; subst h; rfl
  | n, m, .str i, y, c, hx, hy, ha, h => by
    cases y <;> simp only [D.lt, Option.some.injEq] at h <;> first | (cases h; done) | skip
    simp only [D.toP]; rw [PySem.W.dataLt_str]; subst h; rfl
  | n, m, .tup xs, y, c, hx, hy, ha, h => by
    cases y <;> simp only [D.lt] at h <;> first | (cases h; done) | skip
    cases n with
    | zero => simp [D.pureN] at hx
    | succ n =>
      cases m with
      | zero => simp [D.pureN] at hy
      | succ m =>
        simp only [D.toP]; rw [PySem.W.dataLt_tuple]
        exact lts_toP n m _ _ c (by simpa [D.pureN] using hx) (by simpa [D.pureN] using hy) (by simpa [D.alike] using ha) h
  | n, m, .fl xs, y, c, hx, hy, ha, h => by
    cases y <;> simp only [D.lt] at h <;> first | (cases h; done) | skip
    cases n with
    | zero => simp [D.pureN] at hx
    | succ n =>
      cases m with
      | zero => simp [D.pureN] at hy
      | succ m =>
        simp only [D.toP]; rw [PySem.W.dataLt_list]
        exact lts_toP n m _ _ c (by simpa [D.pureN] using hx) (by simpa [D.pureN] using hy) (by simpa [D.alike] using ha) h
  | n, m, .fd _, y, c, hx, hy, ha, h => by cases y <;> simp [D.lt] at h
  | n, m, .ref _, y, c, hx, hy, ha, h => by cases y <;> simp [D.lt] at h
theorem lts_toP : ∀ (n m : Nat) (x y : List D) (c : Bool), D.pureNs n x = true → D.pureNs m y = true → D.alikes x y = true → D.lts x y = some c →
    PyProof.Rows.lexLt PyProof.Rows.itemOrd (PySem.W.keyToksAll (D.toPs x)) (PySem.W.keyToksAll (D.toPs y)) = c
  | n, m, [], [], c, _, _, _, h => by simp [D.lts] at h; subst h; exact lex_irrefl _
  | n, m, [], y :: ys, c, _, _, _, h => by
    simp only [D.lts, Option.some.injEq] at h; subst h
    simp only [D.toPs, PySem.W.keyToksAll]
    rfl
  | n, m, x :: xs, [], c, _, _, _, h => by
    simp only [D.lts, Option.some.injEq] at h; subst h
    simp only [D.toPs, PySem.W.keyToksAll]
    rfl
  | n, m, x :: xs, y :: ys, c, hx, hy, ha, h => by
    simp only [D.pureNs, Bool.and_eq_true] at hx hy
    simp only [D.alikes, Bool.and_eq_true] at ha
    simp only [D.lts] at h
    simp only [D.toPs]
    have e := eqp_toP n m x y hx.1 hy.1
    have al := alike_toP x y ha.1
    split at h
    · rename_i q
      rw [PySem.W.dataLt_all_yes al (e.trans q)]
      exact lts_toP n m xs ys c hx.2 hy.2 ha.2 h
    · rename_i q
      rw [PySem.W.dataLt_all_no al (e.trans (by simpa using q))]
      exact lt_toP n m x y c hx.1 hy.1 ha.1 h
end

section
variable {p : Pm} {X : Cx}
theorem lt_bl {pins : List (Addr × Obj)} {s : Shared} {σ : L2.St} {H : Hp} {env : Env} {M : Mem} {μ : List Addr} {x y : V} {v u : Value} {a b : Vw} {c : Bool} {Q : VK} (hK : p.K = X.K) (hu : X.A.units + 64 < cLine) (I : Inv X pins σ H s) (rel : Rel p.w p.K env M μ σ H)
    (ha : VAt p.w p.K H μ a x) (hb : VAt p.w p.K H μ b y) (rx : RelV x v) (ry : RelV y u) (e : cmpO M .lt a b = some c) (q : Q (.bl c) H) : wpAny (model X.prog X.w) X.A (compareOp .Lt v u) (EP X pins σ Q) X.xe s := by
  simp only [cmpO] at e
  split at e
  · rename_i d1 d2
    split at e
    · rename_i hh
      simp only [Bool.and_eq_true] at hh
      obtain ⟨⟨al, p1⟩, p2⟩ := hh
      obtain ⟨h1, _⟩ := ha
      obtain ⟨h2, _⟩ := hb
      have e1 := h1.dp p1
      have e2 := h2.dp p2
      rw [hK] at e1 e2
      obtain ⟨as, r1⟩ := Dp.reads I _ _ _ e1 rx
      obtain ⟨bs, r2⟩ := Dp.reads I _ _ _ e2 ry
      have hd1 := (toP_ok 60 d1 p1).2
      have hd2 := (toP_ok 60 d2 p2).2
      have hn : D.toP d1 ≠ .none := fun z => by
        cases d1 <;> simp [D.toP] at z <;> simp [D.lt] at e
      have R := PySem.W.rcLt_alike _ _ X.A s v u as bs r1 r2 (alike_toP _ _ al) hn (by omega)
      rw [lt_toP 60 60 d1 d2 c p1 p2 al e] at R
      exact R X.prog X.w X.xe (EP X pins σ Q) ⟨.bl c, H, I, rfl, q⟩
    · cases e
  · cases e
theorem ops_lt (hK : p.K = X.K) (hu : X.A.units + 64 < cLine) : OpS p X (compareOp .Lt) (fun M v w => (cmpO M .lt v w).map fun c => .val (.bl c)) := ops_bool fun _ _ _ _ _ _ _ _ _ _ _ _ _ _ _ I rel ha hb rx ry e q => lt_bl hK hu I rel ha hb rx ry e q
theorem ops_le : OpS p X (compareOp .LtE) (fun M v w => (cmpO M .le v w).map fun c => .val (.bl c)) := ops_bool fun pins s σ H env M μ x y v u a b c Q I rel ha hb rx ry e q => by
  simp only [cmpO] at e
  split at e
  · cases e
    obtain ⟨h1, _⟩ := ha; obtain ⟨h2, _⟩ := hb
    cases h1; cases h2
    exact op_le pins s σ H _ _ v u Q I rx ry ⟨_, _, rfl, rfl, q⟩
  · cases e
theorem ops_gt : OpS p X (compareOp .Gt) (fun M v w => (cmpO M .gt v w).map fun c => .val (.bl c)) := ops_bool fun pins s σ H env M μ x y v u a b c Q I rel ha hb rx ry e q => by
  simp only [cmpO] at e
  split at e
  · cases e
    obtain ⟨h1, _⟩ := ha; obtain ⟨h2, _⟩ := hb
    cases h1; cases h2
    exact op_gt pins s σ H _ _ v u Q I rx ry ⟨_, _, rfl, rfl, q⟩
  · cases e
theorem ops_ge : OpS p X (compareOp .GtE) (fun M v w => (cmpO M .ge v w).map fun c => .val (.bl c)) := ops_bool fun pins s σ H env M μ x y v u a b c Q I rel ha hb rx ry e q => by
  simp only [cmpO] at e
  split at e
  · cases e
    obtain ⟨h1, _⟩ := ha; obtain ⟨h2, _⟩ := hb
    cases h1; cases h2
    exact op_ge pins s σ H _ _ v u Q I rx ry ⟨_, _, rfl, rfl, q⟩
  · cases e
theorem is_bl {pins : List (Addr × Obj)} {s : Shared} {σ : L2.St} {H : Hp} {μ : List Addr} {x y : V} {v u : Value} {a b : Vw} {c : Bool} (hx : VAt p.w p.K H μ a x) (hy : VAt p.w p.K H μ b y) (e : isO a b = some c) :
    (∃ i j, x = .bl i ∧ y = .bl j ∧ c = decide (i = j)) ∨ (y = .non ∧ c = decide (x = .non)) := by
  unfold isO at e
  split at e
  · cases e
    obtain ⟨h1, _⟩ := hx; obtain ⟨h2, _⟩ := hy
    cases h1; cases h2
    exact .inl ⟨_, _, rfl, rfl, by rename_i i j; cases i <;> cases j <;> rfl⟩
  · rename_i d _
    cases e
    obtain ⟨h1, _⟩ := hx; obtain ⟨h2, _⟩ := hy
    cases h2
    refine .inr ⟨rfl, ?_⟩
    cases h1 <;> rfl
  · cases e
    obtain ⟨a, vs, rfl, _⟩ := hx; obtain ⟨h2, _⟩ := hy
    cases h2
    exact .inr ⟨rfl, rfl⟩
  · cases e
    obtain ⟨a, vs, rfl, _⟩ := hx; obtain ⟨h2, _⟩ := hy
    cases h2
    exact .inr ⟨rfl, rfl⟩
  · cases e
theorem ops_is : OpS p X (compareOp .Is) (fun M v w => (cmpO M .is v w).map fun c => .val (.bl c)) := ops_bool fun pins s σ H env M μ x y v u a b c Q I rel ha hb rx ry e q => by
  rcases is_bl (pins := pins) (s := s) (σ := σ) (v := v) (u := u) ha hb e with ⟨i, j, rfl, rfl, rfl⟩ | ⟨rfl, rfl⟩
  · exact op_is_bl pins s σ H _ _ v u Q I rx ry ⟨_, _, rfl, rfl, q⟩
  · exact op_isN pins s σ H _ _ v u Q I rx ry ⟨rfl, q⟩
theorem ops_nis : OpS p X (compareOp .IsNot) (fun M v w => (cmpO M .nis v w).map fun c => .val (.bl c)) := ops_bool fun pins s σ H env M μ x y v u a b c Q I rel ha hb rx ry e q => by
  obtain ⟨c, e1, rfl⟩ := Option.map_eq_some_iff.mp e
  rcases is_bl (pins := pins) (s := s) (σ := σ) (v := v) (u := u) ha hb e1 with ⟨i, j, rfl, rfl, rfl⟩ | ⟨rfl, rfl⟩
  · exact op_isnot_bl pins s σ H _ _ v u Q I rx ry ⟨_, _, rfl, rfl, q⟩
  · exact op_notN pins s σ H _ _ v u Q I rx ry ⟨rfl, q⟩
end

/-! ### arithmetic -/
section
variable {p : Pm} {X : Cx}
theorem big64_ok {i j : Int} (h : (big64 i || big64 j) = true) : CMul i j := by
  simp only [big64, Bool.or_eq_true, decide_eq_true_eq] at h
  exact h
theorem ops_intI {op : Operator} {bo : Bop} {r : R2} (ho : OpR X (binaryOp op) r) (hi : ∀ i j k H Q, binI bo i j = some k → Q (.int k) H → r (.int i) (.int j) H Q) : OpS p X (binaryOp op) (fun _ => intO bo) := by
  intro pins s σ H env M μ x y v u a b r Q I rel ha hb rx ry e q
  have e : intO bo a b = some r := e
  unfold intO at e
  split at e
  · obtain ⟨k, e1, rfl⟩ := Option.map_eq_some_iff.mp e
    obtain ⟨h1, _⟩ := ha; obtain ⟨h2, _⟩ := hb
    cases h1; cases h2
    exact ho pins s σ H _ _ v u Q I rx ry (hi _ _ k H Q e1 (q _ H (Same.refl H) (.int k) trivial))
  · cases e
theorem ops_sub : OpS p X (binaryOp .Sub) (fun _ => binO .sub) := ops_intI op_sub (fun i j k H Q e q => ⟨i, j, rfl, rfl, by simp only [binI, Option.some.injEq] at e; subst e; exact q⟩)
theorem ops_fdiv : OpS p X (binaryOp .FloorDiv) (fun _ => binO .fdiv) := ops_intI op_fdiv (fun i j k H Q e q => by
  simp only [binI] at e
  split at e
  · rename_i h
    cases e
    exact ⟨i, j, rfl, rfl, (decide_eq_true_eq.mp h : 0 < j ∧ j < 1073741824), q⟩
  · cases e)
theorem ops_mod : OpS p X (binaryOp .Mod) (fun _ => binO .mod) := ops_intI op_mod (fun i j k H Q e q => by
  simp only [binI] at e
  split at e
  · rename_i h
    cases e
    exact ⟨i, j, rfl, rfl, by simpa using h, q⟩
  · cases e)
theorem ops_pow : OpS p X (binaryOp .Pow) (fun _ => binO .pow) := ops_intI op_pow (fun i j k H Q e q => by
  simp only [binI] at e
  split at e
  · rename_i h
    cases e
    exact ⟨i, j, rfl, rfl, (decide_eq_true_eq.mp h : 0 ≤ j ∧ j ≤ 1000000 ∧ i.natAbs < 2 ^ 64), q⟩
  · cases e)
theorem Encs.nil_iff {w : World} {K : PySem.W.Frag} {H : Hp} {μ : List Addr} {ds : List D} {vs : List V} (h : Encs w K H μ ds vs) : vs = [] ↔ ds = [] := by
  cases h <;> simp
theorem same_new {H : Hp} {q : Addr} {o : HO} (h : H q = none) : Same H (upd H q o) := fun b u e => by
  rw [upd_ne (ne_of_none e h)]; exact e
theorem ops_mul (hK : p.K = X.K) : OpS p X (binaryOp .Mult) (fun _ => binO .mul) := by
  intro pins s σ H env M μ x y v u a b r Q I rel ha hb rx ry e q
  have e : mulO a b = some r := e
  unfold mulO at e
  split at e
  · split at e
    · rename_i h
      cases e
      obtain ⟨h1, _⟩ := ha; obtain ⟨h2, _⟩ := hb
      cases h1; cases h2
      exact op_mul pins s σ H _ _ v u Q I rx ry ⟨_, _, rfl, rfl, big64_ok h, q _ H (Same.refl H) (.int _) trivial⟩
    · cases e
  · split at e
    · rename_i xs k _ h
      cases e
      simp only [Bool.and_eq_true, decide_eq_true_eq, Bool.not_eq_true', List.isEmpty_eq_false_iff] at h
      obtain ⟨⟨c1, c2, c3⟩, c4⟩ := h
      obtain ⟨h1, _⟩ := ha; obtain ⟨h2, _⟩ := hb
      cases h2
      cases h1 with
      | tup h1 he =>
        have hl := he.length
        refine op_repT pins s σ H _ _ v u Q I rx ry ⟨_, _, _, rfl, rfl, hK ▸ h1, fun z => c4 (he.nil_iff.mp z), c1, c2, by omega, fun q' hq => ?_⟩
        refine q _ _ (same_new hq) (.tup (.inl (.inl upd_same)) ((he.rep k.toNat).mono (FzE.of_same (same_new hq)) fun _ _ z => z)) trivial
    · cases e
  · cases e
theorem add_lists {pins : List (Addr × Obj)} {s : Shared} {σ : L2.St} {H : Hp} {l b : Addr} {xs zs : List V} {Q : VK} (I : Inv X pins σ H s) (h1 : SqL X.K H l xs) (h2 : SqL X.K H b zs) (hz : xs.length + zs.length ≤ sizeLine)
    (q : ∀ q, H q = none → Q (.ref q) (upd H q (.lst (xs ++ zs)))) : wpAny (model X.prog X.w) X.A (binaryOp .Add (.ref l) (.ref b)) (EP X pins σ Q) X.xe s := by
  obtain ⟨its, r1, ⟨⟨c1, d1, o1, sl1⟩, n1, e1, hc1, hd1, hs1⟩, z1⟩ := I.list h1
  obtain ⟨its2, r2, ⟨⟨c2, d2, o2, sl2⟩, n2, e2, hc2, hd2, hs2⟩, z2⟩ := I.list h2
  simp only at hc1 hd1 hs1 hc2 hd2 hs2
  subst hc1 hd1 hs1 hc2 hd2 hs2
  have l1 := r1.length
  have l2 := r2.length
  have ea : its.toArray ++ its2.toArray = (its ++ its2).toArray := by simp
  refine concat_meets ⟨_, e1, rfl⟩ ⟨_, e2, rfl⟩ noFill_list_add seq_list_add PySem.F.slot_list_add PySem.F.entry_list_add (PySem.F.args_list_add_2 _ _)
    (list_addW l b its.toArray its2.toArray n1 n2 none none sl1 sl2 (by simp only [List.size_toArray]; omega)) ⟨e1, e2, ?_⟩
  rw [ea]
  exact ⟨.ref _, _, I.lnew (t' := s.toks) (r1.append r2) (by rw [List.length_append]; omega), rfl, q _ I.fresh⟩
theorem ops_add (hK : p.K = X.K) : OpS p X (binaryOp .Add) (fun _ => binO .add) := by
  intro pins s σ H env M μ x y v u a b r Q I rel ha hb rx ry e q
  have e : addO a b = some r := e
  unfold addO at e
  split at e
  · cases e
    obtain ⟨h1, _⟩ := ha; obtain ⟨h2, _⟩ := hb
    cases h1; cases h2
    exact op_add pins s σ H _ _ v u Q I rx ry ⟨_, _, rfl, rfl, q _ H (Same.refl H) (.int _) trivial⟩
  · split at e
    · rename_i h
      cases e
      obtain ⟨h1, _⟩ := ha; obtain ⟨h2, _⟩ := hb
      cases h1; cases h2
      exact op_add_str pins s σ H _ _ v u Q I rx ry ⟨_, _, rfl, rfl, by simpa [lineOk] using h, q _ H (Same.refl H) (.str _) trivial⟩
    · cases e
  · split at e
    · rename_i xs ys h
      cases e
      obtain ⟨h1, _⟩ := ha; obtain ⟨h2, _⟩ := hb
      cases h1 with
      | tup h1 he1 =>
        cases h2 with
        | tup h2 he2 =>
          have hl1 := he1.length
          have hl2 := he2.length
          simp only [lineOk, decide_eq_true_eq] at h
          refine op_catA pins s σ H _ _ v u Q I rx ry ⟨_, _, _, _, rfl, rfl, hK ▸ h1, hK ▸ h2, by omega, fun z => ?_, fun _ z => ?_, fun _ _ q' hq => ?_⟩
          · rw [he1.nil_iff] at z; subst z
            exact q _ H (Same.refl H) (.tup h2 he2) trivial
          · rw [he2.nil_iff] at z; subst z
            rw [List.append_nil] at q
            exact q _ H (Same.refl H) (.tup h1 he1) trivial
          · exact q _ _ (same_new hq) (.tup (.inl (.inl upd_same)) ((he1.append he2).mono (FzE.of_same (same_new hq)) fun _ _ z => z)) trivial
    · cases e
  · split at e
    · rename_i xs ys h
      cases e
      obtain ⟨a1, us, rfl, h1, he1⟩ := ha
      obtain ⟨a2, vs, rfl, h2, he2⟩ := hb
      cases rx; cases ry
      have hl1 := he1.length
      have hl2 := he2.length
      simp only [lineOk, decide_eq_true_eq] at h
      refine add_lists I (hK ▸ h1) (hK ▸ h2) (by omega) fun q' hq => ?_
      have sm := same_new (o := .lst (us ++ vs)) hq
      obtain ⟨n1, n2⟩ := rel.new hq
      exact q _ _ sm ⟨q', rfl, ⟨_, upd_same, (he1.append he2).mono (FzE.of_same sm) fun _ _ z => z⟩, n1, n2⟩ fun a e => by cases e; exact hq
    · cases e
  · cases e
end
end Iv

/-! Iv: freezing new objects; lists of results; displays. -/
namespace Iv
open PySem PySem.Spec PyProof.Rows L2

/-- the objects at A are frozen -/
structure FrzT (H H' : Hp) (A : List Addr) : Prop where
  same : ∀ b, b ∉ A → H' b = H b
  frz : ∀ b, b ∈ A → ∃ u o, H b = some u ∧ ¬ Fz u ∧ H' b = some (.frz o u)
section
variable {w : World} {K : PySem.W.Frag} {env env' env1 env2 : Env} {M M' : Mem} {μ μ' μ1 μ2 : List Addr} {σ σ' σ1 σ2 : L2.St} {H H' H1 H2 : Hp} {A B : List Addr}
theorem FrzT.refl (H : Hp) : FrzT H H [] := ⟨fun _ _ => rfl, fun _ h => nomatch h⟩
theorem FrzT.fz (f : FrzT H H' A) : FzE H H' := fun b o e z => by
  by_cases hb : b ∈ A
  · obtain ⟨u, q, h1, h2, _⟩ := f.frz b hb
    rw [e] at h1; cases h1
    exact absurd z h2
  · rw [f.same b hb]; exact e
theorem FrzT.trans (f : FrzT H H1 A) (g : FrzT H1 H2 B) (n : ∀ b ∈ B, b ∉ A) : FrzT H H2 (A ++ B) := by
  refine ⟨fun b hb => ?_, fun b hb => ?_⟩
  · simp only [List.mem_append, not_or] at hb
    rw [g.same b hb.2, f.same b hb.1]
  · rcases List.mem_append.mp hb with z | z
    · obtain ⟨u, o, h1, h2, h3⟩ := f.frz b z
      refine ⟨u, o, h1, h2, ?_⟩
      rw [g.same b fun q => n b q z]; exact h3
    · obtain ⟨u, o, h1, h2, h3⟩ := g.frz b z
      rw [f.same b (n b z)] at h1
      exact ⟨u, o, h1, h2, h3⟩
theorem Ext.frz (x : Ext env μ σ H env1 μ1 σ1 H1) (f : FrzT H1 H2 A) (n : ∀ a ∈ A, H a = none) : Ext env μ σ H env1 μ1 σ1 H2 where
  pre := x.pre
  keep := fun b o h n1 n2 => by
    rw [f.same b fun z => by rw [n b z] at h; cases h]
    exact x.keep b o h n1 n2
  owned := x.owned
  lcks := x.lcks
  fz := x.fz.trans f.fz
  dom := fun b h => by
    by_cases hb : b ∈ A
    · exact n b hb
    · rw [f.same b hb] at h; exact x.dom b h
theorem Rel.frz (r : Rel w K env M μ σ H) (f : FrzT H H1 A) (n : ∀ a ∈ A, a ∉ μ ∧ ¬ Held env σ a) : Rel w K env M μ σ H1 := by
  have at' : ∀ {o : Ob} {a : Addr}, ObAt w K H μ o a → a ∉ A → ObAt w K H1 μ o a := fun {o a} h ha => h.mono f.fz (fun _ _ z => z) (f.same a ha)
  refine ⟨r.len, fun i d h => ?_, fun i o h => ?_, fun i o h => ?_, fun j o h => ?_, r.mlen, r.nd, r.sep⟩
  · obtain ⟨v, a, b⟩ := r.val i d h
    exact ⟨v, a, b.mono f.fz fun _ _ z => z⟩
  · obtain ⟨a, b, c, d⟩ := r.own i o h
    exact ⟨a, b, at' c fun z => (n a z).2 (.inl ⟨i, o, h, b⟩), d⟩
  · obtain ⟨a, b, c, d⟩ := r.lck i o h
    exact ⟨a, b, at' c fun z => (n a z).2 (.inr ⟨i, o, h, b⟩), d⟩
  · obtain ⟨a, b, c⟩ := r.mem j o h
    exact ⟨a, b, at' c fun z => (n a z).1 (List.mem_of_getElem? b)⟩
/-- the new objects of results -/
def newA : R → V → List Addr
  | .own _, .ref a => [a]
  | _, _ => []
def newAs : List R → List V → List Addr
  | r :: rs, v :: vs => newA r v ++ newAs rs vs
  | _, _ => []
/-- the values tell the results -/
inductive RReps (w : World) (K : PySem.W.Frag) (env : Env) (μ : List Addr) (σ : L2.St) (H : Hp) : List R → List V → Prop
  | nil : RReps w K env μ σ H [] []
  | cons {r : R} {v : V} {rs : List R} {vs : List V} : RRep w K env μ σ H r v → RReps w K env μ σ H rs vs → RReps w K env μ σ H (r :: rs) (v :: vs)
theorem RReps.length {rs : List R} {vs : List V} (h : RReps w K env μ σ H rs vs) : rs.length = vs.length := by
  induction h with
  | nil => rfl
  | cons _ _ ih => simp [ih]
theorem RRep.newOk {r : R} {v : V} (h : RRep w K env μ σ H r v) : ∀ a ∈ newA r v, a ∉ μ ∧ ¬ Held env σ a ∧ ∃ u, H a = some u ∧ ¬ Fz u ∧ Mut (some u) := fun a ha => by
  cases r with
  | own o =>
    obtain ⟨b, rfl, h1, h2, h3⟩ := h
    have e : a = b := by simpa [newA] using ha
    subst e
    exact ⟨h2, h3, h1.some⟩
  | val d => simp [newA] at ha
  | lnd i => simp [newA] at ha
theorem RReps.newOk {rs : List R} {vs : List V} (h : RReps w K env μ σ H rs vs) : ∀ a ∈ newAs rs vs, a ∉ μ ∧ ¬ Held env σ a ∧ ∃ u, H a = some u ∧ ¬ Fz u ∧ Mut (some u) := by
  induction h with
  | nil => intro a ha; simp [newAs] at ha
  | cons h1 _ ih =>
    intro a ha
    rcases List.mem_append.mp ha with z | z
    · exact h1.newOk a z
    · exact ih a z
theorem RRep.frz {r : R} {v : V} (h : RRep w K env μ σ H r v) (f : FrzT H H1 A) (n : ∀ a ∈ newA r v, a ∉ A) : RRep w K env μ σ H1 r v := by
  cases r with
  | val d => exact h.mono f.fz fun _ _ z => z
  | own o =>
    obtain ⟨b, rfl, h1, h2, h3⟩ := h
    exact ⟨b, rfl, h1.mono f.fz (fun _ _ z => z) (f.same b (n b (by simp [newA]))), h2, h3⟩
  | lnd i => exact h
theorem RReps.frz {rs : List R} {vs : List V} (h : RReps w K env μ σ H rs vs) (f : FrzT H H1 A) (n : ∀ a ∈ newAs rs vs, a ∉ A) : RReps w K env μ σ H1 rs vs := by
  induction h with
  | nil => exact .nil
  | cons h1 _ ih => exact .cons (h1.frz f fun a ha => n a (List.mem_append_left _ ha)) (ih fun a ha => n a (List.mem_append_right _ ha))
end

section
variable {p : Pm} {X : Cx} {env : Env} {M : Mem} {μ : List Addr} {σ : L2.St} {H : Hp} {pins : List (Addr × Obj)} {s : Shared}
theorem lock1 {a : Addr} {u : HO} (I : Inv X pins σ H s) (h : H a = some u) (m : Mut (some u)) (nf : ¬ Fz u) : ∃ o H1, Inv X pins σ H1 s ∧ FrzT H H1 [a] ∧ H1 a = some (.frz o u) := by
  obtain ⟨od, I1⟩ := I.lock h m
  refine ⟨od, _, I1, ⟨fun b hb => upd_ne (by simpa using hb), fun b hb => ?_⟩, upd_same⟩
  have e : b = a := by simpa using hb
  subst e
  exact ⟨u, od, h, nf, upd_same⟩
/-- a result becomes data -/
theorem freeze1 {r : R} {v : V} {d : D} (I : Inv X pins σ H s) (h : RRep p.w p.K env μ σ H r v) (e : r.toD = some d) : ∃ H1, Inv X pins σ H1 s ∧ FrzT H H1 (newA r v) ∧ Enc p.w p.K H1 μ d v := by
  cases r with
  | val d' =>
    simp only [R.toD, Option.some.injEq] at e; subst e
    exact ⟨H, I, by simpa [newA] using FrzT.refl H, h⟩
  | own o =>
    obtain ⟨a, rfl, h1, _, _⟩ := h
    cases o with
    | lst xs =>
      simp only [R.toD, Option.some.injEq] at e; subst e
      obtain ⟨vs, h2, h3⟩ := h1
      obtain ⟨o, H1, I1, f, q⟩ := lock1 I h2 trivial (fun z => z)
      exact ⟨H1, I1, f, .fl (.inl ⟨o, q⟩) (h3.mono f.fz fun _ _ z => z)⟩
    | dic kvs =>
      simp only [R.toD, Option.some.injEq] at e; subst e
      obtain ⟨ob, h2, es, ep, h3, h4, h5, h6, h7⟩ := h1
      obtain ⟨o, H1, I1, f, q⟩ := lock1 I h2 trivial (fun z => z)
      exact ⟨H1, I1, f, .fd ⟨o, q⟩ h3 h4 (h5.mono f.fz fun _ _ z => z) h6 h7⟩
    | set _ => cases e
    | ins _ _ => cases e
  | lnd i => cases e
theorem freezes : ∀ {rs : List R} {vs : List V} {ds : List D} {H : Hp}, Inv X pins σ H s → RReps p.w p.K env μ σ H rs vs → (newAs rs vs).Nodup → toDs rs = some ds → ∃ H1, Inv X pins σ H1 s ∧ FrzT H H1 (newAs rs vs) ∧ Encs p.w p.K H1 μ ds vs
  | [], _, _, H, I, .nil, _, e => by
    simp only [toDs, Option.some.injEq] at e; subst e
    exact ⟨H, I, FrzT.refl H, .nil⟩
  | r :: rs, _, ds, H, I, .cons (v := v) (vs := vs) h t, nd, e => by
    simp only [toDs] at e
    split at e
    · rename_i d ds' e1 e2
      cases e
      obtain ⟨n1, n2, n3⟩ := List.nodup_append.mp nd
      obtain ⟨H1, I1, f1, h1⟩ := freeze1 I h e1
      have t1 := t.frz f1 fun a ha z => n3 a z a ha rfl
      obtain ⟨H2, I2, f2, h2⟩ := freezes I1 t1 n2 e2
      exact ⟨H2, I2, f1.trans f2 fun b hb z => n3 b z b hb rfl, .cons (h1.mono f2.fz fun _ _ z => z) h2⟩
    · cases e
end

/-! ### lists of results -/
/-- what stands behind expressions in a row -/
structure GotL (p : Pm) (σ : L2.St) (H : Hp) (env : Env) (μ : List Addr) (rs : List R) (env' : Env) (M' : Mem) (vs : List V) (H' : Hp) (μ' : List Addr) : Prop where
  rel : Rel p.w p.K env' M' μ' σ H'
  sk : SK env env'
  rep : RReps p.w p.K env' μ' σ H' rs vs
  ext : Ext env μ σ H env' μ' σ H'
  new : ∀ a ∈ newAs rs vs, H a = none
  nd : (newAs rs vs).Nodup
def tA (p : Pm) (f : Evs) : TA := fun σ H Q => ∃ env M μ, Rel p.w p.K env M μ σ H ∧ Out p σ H env μ (f env M) fun rs env' M' => ∀ vs H' μ', GotL p σ H env μ rs env' M' vs H' μ' → Q vs H'
abbrev JA (p : Pm) (X : Cx) (es : List Expr) (f : Evs) : Prop := PA X es (tA p f)
section
variable {p : Pm} {X : Cx} {σ : L2.St} {H H1 : Hp} {env env1 : Env} {M M1 : Mem} {μ μ1 : List Addr} {pins : List (Addr × Obj)} {s : Shared} {e : Expr} {es : List Expr} {fe : Ev} {fs : Evs}
theorem RReps.later {rs : List R} {vs : List V} {r2 : R} {v2 : V} (h : RReps p.w p.K env μ σ H rs vs) (x : Ext env μ σ H env1 μ1 σ H1) (k : SK env env1) : RReps p.w p.K env1 μ1 σ H1 rs vs := by
  induction h with
  | nil => exact .nil
  | cons h1 _ ih => exact .cons (h1.ext x k.kind) ih
theorem Fresh.newA {r : R} {v : V} (h : Fresh H r v) : ∀ a ∈ newA r v, H a = none := fun a ha => by
  cases r with
  | own o =>
    cases v with
    | ref b => have e : a = b := by simpa [Iv.newA] using ha
               subst e; exact h a rfl
    | _ => simp [Iv.newA] at ha
  | val d => simp [Iv.newA] at ha
  | lnd i => simp [Iv.newA] at ha
theorem newA_nd (r : R) (v : V) : (newA r v).Nodup := by
  cases r <;> cases v <;> simp [newA]
theorem ja_nil : JA p X [] (fun env M => .ok [] env M) := ⟨fun pos pins s σ H Q I ⟨env, M, μ, r, o⟩ => pa_nil.run pos pins s σ H Q I (o [] H μ ⟨r, SK.refl _, .nil, Ext.refl, (fun _ h => nomatch h), List.nodup_nil⟩)⟩
theorem ja_cons (he : JE p X e fe) (hs : JA p X es fs) (hst : starEach (e :: es) X.env = (false, eval e X.env) :: starEach es X.env) : JA p X (e :: es) (consE fe fs) := by
  refine ⟨fun pos pins s σ H Q I ⟨env, M, μ, r, o⟩ => (pa_cons he hs hst).run pos pins s σ H Q I ?_⟩
  refine ⟨env, M, μ, r, Out.imp (Out.bind o) fun r1 env1 M1 o1 v1 H1 μ1 g1 => ?_⟩
  refine ⟨env1, M1, μ1, g1.rel, Out.imp (Out.bind (o1.shift g1.ext)) fun rs env2 M2 o2 vs H2 μ2 g2 => ?_⟩
  have n1 := g1.new.newA
  have n2 : ∀ a ∈ newAs rs vs, H a = none := fun a ha => g1.ext.dom a (g2.new a ha)
  refine o2 (v1 :: vs) H2 μ2 ⟨g2.rel, g1.sk.trans g2.sk, .cons (g1.rep.ext g2.ext g2.sk.kind) g2.rep, g1.ext.trans g2.ext, fun a ha => ?_, ?_⟩
  · rcases List.mem_append.mp ha with z | z
    · exact n1 a z
    · exact n2 a z
  · refine List.nodup_append.mpr ⟨newA_nd _ _, g2.nd, fun a ha b hb z => ?_⟩
    subst z
    obtain ⟨_, _, u, hu, _⟩ := g1.rep.newOk a ha
    rw [g2.new a hb] at hu; cases hu
theorem JA.go {pos : Pos} (h : JA p X es fs) {P : List R → Env → Mem → Prop} (I : Inv X pins σ H s) (r : Rel p.w p.K env M μ σ H) (o : Out p σ H env μ (fs env M) P) :
    wpAny (model X.prog X.w) X.A (spliced (backTo pos (starEach es X.env))) (fun us s1 => ∃ vs rs env1 M1 H1 μ1, Inv X pins σ H1 s1 ∧ Vals vs us ∧ GotL p σ H env μ rs env1 M1 vs H1 μ1 ∧ P rs env1 M1) X.xe s := by
  refine thn (h.run pos pins s σ H (fun vs H1 => ∃ rs env1 M1 μ1, GotL p σ H env μ rs env1 M1 vs H1 μ1 ∧ P rs env1 M1) I ⟨env, M, μ, r, o.imp fun rs env1 M1 q vs H1 μ1 g => ⟨rs, env1, M1, μ1, g, q⟩⟩) fun us s1 q => ?_
  obtain ⟨vs, H1, I1, rv, rs, env1, M1, μ1, g, q⟩ := q
  exact ⟨vs, rs, env1, M1, H1, μ1, I1, rv, g, q⟩

/-- objects made behind -/
theorem GotL.enc {rs : List R} {vs : List V} {ds : List D} (I : Inv X pins σ H1 s) (g : GotL p σ H env μ rs env1 M1 vs H1 μ1) (e : toDs rs = some ds) :
    ∃ H2, Inv X pins σ H2 s ∧ Rel p.w p.K env1 M1 μ1 σ H2 ∧ Ext env μ σ H env1 μ1 σ H2 ∧ Encs p.w p.K H2 μ1 ds vs := by
  obtain ⟨H2, I2, f, h⟩ := freezes I g.rep g.nd e
  exact ⟨H2, I2, g.rel.frz f fun a ha => ⟨(g.rep.newOk a ha).1, (g.rep.newOk a ha).2.1⟩, g.ext.frz f g.new, h⟩
theorem Got.enc {r : R} {v : V} {d : D} (I : Inv X pins σ H1 s) (g : Got p σ H env μ r env1 M1 v H1 μ1) (e : r.toD = some d) :
    ∃ H2, Inv X pins σ H2 s ∧ Rel p.w p.K env1 M1 μ1 σ H2 ∧ Ext env μ σ H env1 μ1 σ H2 ∧ Enc p.w p.K H2 μ1 d v := by
  obtain ⟨H2, I2, f, h⟩ := freeze1 I g.rep e
  exact ⟨H2, I2, g.rel.frz f fun a ha => ⟨(g.rep.newOk a ha).1, (g.rep.newOk a ha).2.1⟩, g.ext.frz f g.new.newA, h⟩
/-- a new object was laid -/
theorem laid_list {xs : List V} {us : List Value} {env2 : Env} (I : Inv X pins σ H s) (r : Vals xs us) (z : xs.length ≤ sizeLine) :
    H s.heap.objs.size = none ∧ Inv X pins σ (upd H s.heap.objs.size (.lst xs)) { s with heap := s.heap.push { cls := .type "list", data := .seq us.toArray } } := by
  refine ⟨I.fresh, I.laid (t' := s.toks) (fun b u e => Heap.get?_push_of_some _ e) (Nat.le_refl _) ⟨z, us, 0, r, Heap.get?_push_size _ rfl⟩⟩
theorem je_tup {k : Nat} {pos : Pos} (h : JA p X es fs) : JE p X (.Tuple es k pos) (tupE fs) := by
  refine JE.of fun pins s σ H Q env M μ I r o => ?_
  refine wpAny_Tuple_spliced (thn (JA.go h I r (Out.bind o)) fun us s1 ⟨vs, rs, env1, M1, H1, μ1, I1, rv, g, o1⟩ => ?_)
  split at o1
  · rename_i ds e
    split at o1
    · rename_i hz
      obtain ⟨H2, I2, rel2, x2, he⟩ := g.enc I1 e
      have hl := he.length
      have hl2 := rv.length
      have hz' : vs.length ≤ sizeLine := by simp only [lineOk, decide_eq_true_eq] at hz; omega
      have hf : H2 s1.heap.objs.size = none := I2.fresh
      have I3 := I2.laid (t' := s1.toks) (a := s1.heap.objs.size) (o := .tup vs) (h' := s1.heap.push { cls := .type "tuple", data := .seq us.toArray }) (fun b u q => Heap.get?_push_of_some _ q) (Nat.le_refl _) ⟨hz', us, rv, ⟨_, Heap.get?_push_size _ rfl, rfl, _, rfl⟩⟩
      have sm := same_new (o := .tup vs) hf
      refine ⟨by omega, .ref s1.heap.objs.size, _, I3, rfl, o1 _ _ μ1 ⟨rel2.grow sm, g.sk, ?_, x2.trans (Ext.grow sm), trivial⟩⟩
      exact .tup (.inl (.inl upd_same)) (he.mono (FzE.of_same sm) fun _ _ z => z)
    · exact o1.elim
  · exact o1.elim
theorem je_lst {pos : Pos} (h : JA p X es fs) : JE p X (.List es pos) (lstE fs) := by
  refine JE.of fun pins s σ H Q env M μ I r o => ?_
  refine wpAny_List_spliced (thn (JA.go h I r (Out.bind o)) fun us s1 ⟨vs, rs, env1, M1, H1, μ1, I1, rv, g, o1⟩ => ?_)
  split at o1
  · rename_i ds e
    split at o1
    · rename_i hz
      obtain ⟨H2, I2, rel2, x2, he⟩ := g.enc I1 e
      have hl := he.length
      have hl2 := rv.length
      have hz' : vs.length ≤ sizeLine := by simp only [lineOk, decide_eq_true_eq] at hz; omega
      have hf : H2 s1.heap.objs.size = none := I2.fresh
      have I3 := I2.laid (t' := s1.toks) (a := s1.heap.objs.size) (o := .lst vs) (h' := s1.heap.push { cls := .type "list", data := .seq us.toArray }) (fun b u q => Heap.get?_push_of_some _ q) (Nat.le_refl _) ⟨hz', us, 0, rv, Heap.get?_push_size _ rfl⟩
      have sm := same_new (o := .lst vs) hf
      obtain ⟨n1, n2⟩ := rel2.new hf
      refine ⟨by omega, .ref s1.heap.objs.size, _, I3, rfl, o1 _ _ μ1 ⟨rel2.grow sm, g.sk, ?_, x2.trans (Ext.grow sm), fun a e => ?_⟩⟩
      · exact ⟨_, rfl, ⟨_, upd_same, he.mono (FzE.of_same sm) fun _ _ z => z⟩, n1, n2⟩
      · cases e
        exact x2.dom _ hf
    · exact o1.elim
  · exact o1.elim
/-- a new object goes into the memory -/
theorem Rel.alc {o : Ob} {a : Addr} (r : Rel p.w p.K env M μ σ H) (h : ObAt p.w p.K H μ o a) (n1 : a ∉ μ) (n2 : ¬ Held env σ a) : Rel p.w p.K env (M ++ [o]) (μ ++ [a]) σ H := by
  have m : ∀ (j : Nat) (b : Addr), μ[j]? = some b → (μ ++ [a])[j]? = some b := fun j b e => by
    rw [List.getElem?_append_left (List.getElem?_eq_some_iff.mp e).1]; exact e
  have at' : ∀ {o : Ob} {b : Addr}, ObAt p.w p.K H μ o b → ObAt p.w p.K H (μ ++ [a]) o b := fun {o b} h => h.mono (FzE.refl H) m rfl
  have nm : ∀ {b : Addr}, b ∉ μ → b ≠ a → b ∉ μ ++ [a] := fun {b} h1 h2 z => by
    rcases List.mem_append.mp z with z | z
    · exact h1 z
    · exact h2 (by simpa using z)
  refine ⟨r.len, fun i d h => ?_, fun i o h => ?_, fun i o h => ?_, fun j o' h' => ?_, by simp [r.mlen], ?_, r.sep⟩
  · obtain ⟨v, a, b⟩ := r.val i d h
    exact ⟨v, a, b.mono (FzE.refl H) m⟩
  · obtain ⟨b, c, d, e⟩ := r.own i o h
    exact ⟨b, c, at' d, nm e fun z => n2 (.inl ⟨i, o, h, z ▸ c⟩)⟩
  · obtain ⟨b, c, d, e, f⟩ := r.lck i o h
    exact ⟨b, c, at' d, nm e fun z => n2 (.inr ⟨i, o, h, z ▸ c⟩), f⟩
  · by_cases hj : j < M.length
    · rw [List.getElem?_append_left hj] at h'
      obtain ⟨b, c, d⟩ := r.mem j o' h'
      exact ⟨b, m j b c, at' d⟩
    · have hj' : j = M.length := by
        have := (List.getElem?_eq_some_iff.mp h').1
        rw [List.length_append, List.length_singleton] at this
        omega
      subst hj'
      rw [List.getElem?_append_right (Nat.le_refl _)] at h'
      simp at h'; subst h'
      refine ⟨a, ?_, at' h⟩
      rw [r.mlen, List.getElem?_append_right (Nat.le_refl _)]; simp
  · exact List.nodup_append.mpr ⟨r.nd, by simp, fun b hb c hc z => n1 (by have e : c = a := by simpa using hc
                                                                          rw [← e, ← z]; exact hb)⟩
theorem Got.alc {ob : Ob} {v : V} (g : Got p σ H env μ (.own ob) env1 M1 v H1 μ1) : ∃ a, v = .ref a ∧ Got p σ H env μ (.val (.ref M1.length)) env1 (M1 ++ [ob]) v H1 (μ1 ++ [a]) := by
  obtain ⟨a, rfl, h1, h2, h3⟩ := g.rep
  have hn := g.new a rfl
  refine ⟨a, rfl, g.rel.alc h1 h2 h3, g.sk, .ref ?_, ?_, trivial⟩
  · rw [g.rel.mlen, List.getElem?_append_right (Nat.le_refl _)]; simp
  · have x := g.ext
    obtain ⟨ν, e1, e2⟩ := x.pre
    exact ⟨⟨ν ++ [a], by rw [e1, List.append_assoc], fun b hb => by
      rcases List.mem_append.mp hb with z | z
      · exact e2 b z
      · have e : b = a := by simpa using z
        subst e; exact hn⟩, x.keep, x.owned, x.lcks, x.fz, x.dom⟩
theorem je_alc {e : Expr} {fe : Ev} (h : JE p X e fe) : JE p X e (alcE fe) := by
  refine JE.of fun pins s σ H Q env M μ I r o => ?_
  refine thn (JE.go h I r (Out.bind o)) fun u s1 ⟨v, r1, env1, M1, H1, μ1, I1, rv, g, o1⟩ => ?_
  cases r1 with
  | own ob =>
    obtain ⟨a, rfl, g2⟩ := g.alc
    exact ⟨.ref a, H1, I1, rv, o1 (.ref a) H1 _ g2⟩
  | val d => exact o1.elim
  | lnd i => exact o1.elim
end
end Iv

/-! Iv: tests, and, or, not, chains; subscripts, slices. -/
namespace Iv
open PySem PySem.Spec PyProof.Rows L2

structure GotB (p : Pm) (σ : L2.St) (H : Hp) (env : Env) (μ : List Addr) (env' : Env) (M' : Mem) (H' : Hp) (μ' : List Addr) : Prop where
  rel : Rel p.w p.K env' M' μ' σ H'
  sk : SK env env'
  ext : Ext env μ σ H env' μ' σ H'
/-- a test, whatever its whole is -/
def JTw (p : Pm) (X : Cx) (e : Expr) (f : Env → Mem → Res Bool) : Prop :=
  ∀ (whole : Sem Value) (pins : List (Addr × Obj)) (s : Shared) (σ : L2.St) (H : Hp) (env : Env) (M : Mem) (μ : List Addr) (P : Bool → Env → Mem → Prop), Inv X pins σ H s → Rel p.w p.K env M μ σ H → Out p σ H env μ (f env M) P →
    wpAny (model X.prog X.w) X.A (isTrue e X.env whole) (fun b s1 => ∃ env1 M1 H1 μ1, Inv X pins σ H1 s1 ∧ GotB p σ H env μ env1 M1 H1 μ1 ∧ P b env1 M1) X.xe s
def JT (p : Pm) (X : Cx) (e : Expr) (f : Env → Mem → Res Bool) : Prop :=
  ∀ (pins : List (Addr × Obj)) (s : Shared) (σ : L2.St) (H : Hp) (env : Env) (M : Mem) (μ : List Addr) (P : Bool → Env → Mem → Prop), Inv X pins σ H s → Rel p.w p.K env M μ σ H → Out p σ H env μ (f env M) P →
    wpAny (model X.prog X.w) X.A (isTrue e X.env (eval e X.env)) (fun b s1 => ∃ env1 M1 H1 μ1, Inv X pins σ H1 s1 ∧ GotB p σ H env μ env1 M1 H1 μ1 ∧ P b env1 M1) X.xe s
section
variable {p : Pm} {X : Cx} {σ : L2.St} {H H1 : Hp} {env env1 : Env} {M M1 : Mem} {μ μ1 : List Addr} {pins : List (Addr × Obj)} {s : Shared} {a b c e : Expr} {fa fb fc fe : Ev} {ga gb gc : Env → Mem → Res Bool} {pos : Pos}
theorem JTw.jt (h : JTw p X e ga) : JT p X e ga := fun pins s σ H env M μ P I r o => h _ pins s σ H env M μ P I r o
theorem GotB.refl (r : Rel p.w p.K env M μ σ H) : GotB p σ H env μ env M H μ := ⟨r, SK.refl _, Ext.refl⟩
theorem Got.toB {r : R} {v : V} (g : Got p σ H env μ r env1 M1 v H1 μ1) : GotB p σ H env μ env1 M1 H1 μ1 := ⟨g.rel, g.sk, g.ext⟩
theorem GotB.trans {env2 : Env} {M2 : Mem} {H2 : Hp} {μ2 : List Addr} (g : GotB p σ H env μ env1 M1 H1 μ1) (g2 : GotB p σ H1 env1 μ1 env2 M2 H2 μ2) : GotB p σ H env μ env2 M2 H2 μ2 := ⟨g2.rel, g.sk.trans g2.sk, g.ext.trans g2.ext⟩
theorem GotB.got {r : R} {v : V} {env2 : Env} {M2 : Mem} {H2 : Hp} {μ2 : List Addr} (g : GotB p σ H env μ env1 M1 H1 μ1) (g2 : Got p σ H1 env1 μ1 r env2 M2 v H2 μ2) : Got p σ H env μ r env2 M2 v H2 μ2 :=
  ⟨g2.rel, g.sk.trans g2.sk, g2.rep, g.ext.trans g2.ext, Fresh.back (env := env) (σ := σ) (env' := env) (μ' := μ) g.ext g2.new⟩
/-- truth, by views -/
theorem truthV {w : World} {K : PySem.W.Frag} {x : V} {v : Vw} {t : Bool} (h : VAt w K H μ v x) (e : truth v = some t) : TruV K x H t := by
  unfold truth at e
  split at e
  · cases e; obtain ⟨h, _⟩ := h; cases h; rfl
  · cases e; obtain ⟨h, _⟩ := h; cases h; rfl
  · cases e; obtain ⟨h, _⟩ := h; cases h; rfl
  · split at e
    · rename_i z
      cases e; obtain ⟨h, _⟩ := h; cases h
      exact ⟨by simpa [lineOk] using z, rfl⟩
    · cases e
  · cases e; obtain ⟨h, _⟩ := h
    cases h with
    | tup h1 h2 => exact .inr (.inl ⟨_, h1, by cases h2 <;> rfl⟩)
  · cases e
    obtain ⟨a, vs, rfl, h1, h2⟩ := h
    exact .inl ⟨_, h1, by cases h2 <;> rfl⟩
  · cases e
/-- the truth of a result -/
theorem truthy_go {v : V} {u : Value} {r : R} {P : Bool → Env → Mem → Prop} (hK : p.K = X.K) (I : Inv X pins σ H1 s) (rv : RelV v u) (g : Got p σ H env μ r env1 M1 v H1 μ1) (o : Out p σ H env μ (vwK r (fun v => Res.ofO (truth v)) env1 M1) P) :
    wpAny (model X.prog X.w) X.A (truthy u) (fun b s1 => (∃ vv, vw env1 M1 r = some vv ∧ truth vv = some b) ∧ Inv X pins σ H1 s1 ∧ P b env1 M1) X.xe s := by
  obtain ⟨vv, e1, o⟩ := vwK_out o
  obtain ⟨t, e2, q⟩ := ofO_out o
  have h := truthV (g.rep.view g.rel e1) e2
  rw [hK] at h
  exact thn (tru_ok pins s σ H1 v u (fun b H2 => b = t ∧ H2 = H1) I rv ⟨t, h, rfl, rfl⟩) fun b s1 ⟨H2, I2, hb, hh⟩ => by
    subst hb hh
    exact ⟨⟨vv, e1, e2⟩, I2, q⟩
/-- any expression whose test is its value's truth -/
theorem jt_val (hK : p.K = X.K) (h : JE p X e fe) (he : ∀ whole, isTrue e X.env whole = (do let v ← whole; standAt e.pos; holding [v] (truthy v))) : JT p X e (tst fe) := by
  intro pins s σ H env M μ P I r o
  refine isTrue_plain (thn (JE.go h I r (Out.bind o)) fun u s1 ⟨v, r1, env1, M1, H1, μ1, I1, rv, g, o1⟩ => ?_) (he _)
  exact thn (truthy_go hK I1 rv g o1) fun b s2 ⟨_, I2, q⟩ => ⟨env1, M1, H1, μ1, I2, g.toB, q⟩
/-- a comparison as a test -/
theorem jt_cmp {op : CmpOp} {co : Cop} (hK : p.K = X.K) (ho : OpS p X (compareOp op) (fun M v w => (cmpO M co v w).map fun c => .val (.bl c))) (ha : JE p X a fa) (hb : JE p X b fb) (hm : behindInMarks op b = false) : JTw p X (.Compare a [op] [b] pos) (tst (cmpE co fa fb)) := by
  intro whole pins s σ H env M μ P I r o
  refine wpAny_isTrue_Compare1 ?_ hm
  have q := bin2_go (g := fun M v w => (cmpO M co v w).map fun c => .val (.bl c)) ha hb ho (Q := fun v H1 => ∃ r1 env1 M1 μ1, Got p σ H env μ r1 env1 M1 v H1 μ1 ∧ Out p σ H env μ (vwK r1 (fun v => Res.ofO (truth v)) env1 M1) P) I r
    ((Out.bind o).imp fun r1 env1 M1 o1 v H1 μ1 g => ⟨r1, env1, M1, μ1, g, o1⟩)
  refine thn q fun v s1 h1 => thn h1 fun u s2 h2 => thn h2 fun cv s3 ⟨x, H3, I3, rx, r1, env1, M1, μ1, g, o1⟩ => ?_
  exact thn (truthy_go hK I3 rx g o1) fun b s2 ⟨_, I2, q⟩ => ⟨env1, M1, H3, μ1, I2, g.toB, q⟩
theorem jt_not (h : JT p X a ga) : JTw p X (.UnaryOp .Not a pos) (fun env M => (ga env M).bind fun b env M => .ok (!b) env M) := by
  intro whole pins s σ H env M μ P I r o
  exact isTrue_not (thn (h pins s σ H env M μ (fun b env M => P (!b) env M) I r (Out.bind o)) fun b s1 q => q)
/-- truth of what a test makes -/
theorem tst_notE (env : Env) (M : Mem) : tst (notE fa) env M = (tst fa env M).bind fun b env M => .ok (!b) env M := by
  unfold tst notE
  cases h : (fa env M).bind fun x env M => vwK x (fun v => Res.ofO (truth v)) env M with
  | stuck => unfold tst; rw [h]; rfl
  | exc x env M => unfold tst; rw [h]; rfl
  | ok b env M => unfold tst; rw [h]; rfl
theorem JT.congr {ga gb : Env → Mem → Res Bool} (h : JT p X e ga) (q : ∀ env M, gb env M = ga env M) : JT p X e gb := by
  have : gb = ga := funext fun env => funext fun M => q env M
  rw [this]; exact h
theorem JTw.congr {ga gb : Env → Mem → Res Bool} (h : JTw p X e ga) (q : ∀ env M, gb env M = ga env M) : JTw p X e gb := by
  have : gb = ga := funext fun env => funext fun M => q env M
  rw [this]; exact h
theorem jt_notE (h : JT p X a (tst fa)) : JTw p X (.UnaryOp .Not a pos) (tst (notE fa)) := (jt_not h).congr tst_notE
theorem tst_andE (env : Env) (M : Mem) : tst (andE fa fb) env M = (tst fa env M).bind fun c env M => if c = true then tst fb env M else .ok false env M := by
  unfold tst andE
  cases h : fa env M with
  | stuck => rfl
  | exc x env M => rfl
  | ok r env M =>
    simp only [Res.bind, vwK]
    cases h2 : vw env M r with
    | none => rfl
    | some v =>
      simp only
      cases h3 : truth v with
      | none => rfl
      | some t =>
        cases t with
        | true => rfl
        | false => simp only [Res.ofO, h2, h3]; rfl
theorem tst_orE (env : Env) (M : Mem) : tst (orE fa fb) env M = (tst fa env M).bind fun c env M => if c = true then .ok true env M else tst fb env M := by
  unfold tst orE
  cases h : fa env M with
  | stuck => rfl
  | exc x env M => rfl
  | ok r env M =>
    simp only [Res.bind, vwK]
    cases h2 : vw env M r with
    | none => rfl
    | some v =>
      simp only
      cases h3 : truth v with
      | none => rfl
      | some t =>
        cases t with
        | false => rfl
        | true => simp only [Res.ofO, h2, h3]; rfl
theorem tst_ifeE (env : Env) (M : Mem) : tst (ifeE fc fa fb) env M = (tst fc env M).bind fun c env M => if c = true then tst fa env M else tst fb env M := by
  unfold ifeE
  show ((tst fc env M).bind fun t env M => if t = true then fa env M else fb env M).bind _ = _
  cases tst fc env M with
  | stuck => rfl
  | exc x env M => rfl
  | ok c env M => cases c <;> rfl
theorem jt_one {op : BoolOp} (h : JT p X a ga) : JTw p X (.BoolOp op [a] pos) ga := by
  intro whole pins s σ H env M μ P I r o
  cases op with
  | And =>
    refine isTrue_and (thn (h pins s σ H env M μ P I r o) fun c s1 q => ?_)
    cases c with
    | true => exact isTrue_and_nil q
    | false => exact q
  | Or =>
    refine isTrue_or (thn (h pins s σ H env M μ P I r o) fun c s1 q => ?_)
    cases c with
    | false => exact isTrue_or_nil q
    | true => exact q
theorem jt_and {rest : List Expr} (ha : JT p X a (tst fa)) (hb : JTw p X (.BoolOp .And (b :: rest) pos) (tst fb)) : JTw p X (.BoolOp .And (a :: b :: rest) pos) (tst (andE fa fb)) := by
  intro whole pins s σ H env M μ P I r o
  rw [tst_andE] at o
  refine isTrue_and (thn (ha pins s σ H env M μ _ I r (Out.bind o)) fun c s1 ⟨env1, M1, H1, μ1, I1, g1, o1⟩ => ?_)
  cases c with
  | true => exact thn (hb whole pins s1 σ H1 env1 M1 μ1 _ I1 g1.rel (o1.shift g1.ext)) fun c s2 ⟨env2, M2, H2, μ2, I2, g2, q⟩ => ⟨env2, M2, H2, μ2, I2, g1.trans g2, q⟩
  | false => exact ⟨env1, M1, H1, μ1, I1, g1, o1⟩
theorem jt_or {rest : List Expr} (ha : JT p X a (tst fa)) (hb : JTw p X (.BoolOp .Or (b :: rest) pos) (tst fb)) : JTw p X (.BoolOp .Or (a :: b :: rest) pos) (tst (orE fa fb)) := by
  intro whole pins s σ H env M μ P I r o
  rw [tst_orE] at o
  refine isTrue_or (thn (ha pins s σ H env M μ _ I r (Out.bind o)) fun c s1 ⟨env1, M1, H1, μ1, I1, g1, o1⟩ => ?_)
  cases c with
  | false => exact thn (hb whole pins s1 σ H1 env1 M1 μ1 _ I1 g1.rel (o1.shift g1.ext)) fun c s2 ⟨env2, M2, H2, μ2, I2, g2, q⟩ => ⟨env2, M2, H2, μ2, I2, g1.trans g2, q⟩
  | true => exact ⟨env1, M1, H1, μ1, I1, g1, o1⟩
theorem jt_ife (hc : JT p X c (tst fc)) (ha : JT p X a (tst fa)) (hb : JT p X b (tst fb)) : JTw p X (.IfExp c a b pos) (tst (ifeE fc fa fb)) := by
  intro whole pins s σ H env M μ P I r o
  rw [tst_ifeE] at o
  refine isTrue_IfExp (thn (hc pins s σ H env M μ _ I r (Out.bind o)) fun c s1 ⟨env1, M1, H1, μ1, I1, g1, o1⟩ => ?_)
  cases c with
  | false => exact thn (hb pins s1 σ H1 env1 M1 μ1 _ I1 g1.rel (o1.shift g1.ext)) fun c s2 ⟨env2, M2, H2, μ2, I2, g2, q⟩ => ⟨env2, M2, H2, μ2, I2, g1.trans g2, q⟩
  | true => exact thn (ha pins s1 σ H1 env1 M1 μ1 _ I1 g1.rel (o1.shift g1.ext)) fun c s2 ⟨env2, M2, H2, μ2, I2, g2, q⟩ => ⟨env2, M2, H2, μ2, I2, g1.trans g2, q⟩
/-! as values -/
theorem je_not (hK : p.K = X.K) (h : JE p X a fa) : JE p X (.UnaryOp .Not a pos) (notE fa) := by
  refine JE.of fun pins s σ H Q env M μ I r o => ?_
  have o' := Out.bind (Out.bind o)
  refine UnaryOp_ (thn (JE.go h I r o') fun u s1 ⟨v, r1, env1, M1, H1, μ1, I1, rv, g, o1⟩ => ?_)
  refine not_of (thn (truthy_go hK I1 rv g o1) fun c s2 ⟨_, I2, q⟩ => ?_)
  exact ⟨.bl (!c), H1, I2, rfl, q _ H1 μ1 ⟨g.rel, g.sk, .bl _, g.ext, trivial⟩⟩
theorem je_one {op : BoolOp} (h : JE p X a fa) : JE p X (.BoolOp op [a] pos) fa := pe_one h
theorem je_and {rest : List Expr} (hK : p.K = X.K) (ha : JE p X a fa) (hb : JE p X (.BoolOp .And (b :: rest) pos) fb) : JE p X (.BoolOp .And (a :: b :: rest) pos) (andE fa fb) := by
  refine JE.of fun pins s σ H Q env M μ I r o => ?_
  refine BoolOp_and (thn (JE.go ha I r (Out.bind o)) fun u s1 ⟨v, r1, env1, M1, H1, μ1, I1, rv, g, o1⟩ => ?_)
  obtain ⟨vv, e1, o1⟩ := vwK_out o1
  cases ht : truth vv with
  | none => rw [ht] at o1; exact o1.elim
  | some t =>
    rw [ht] at o1
    refine thn (truthy_go (P := fun c env M => c = t ∧ env = env1 ∧ M = M1) hK I1 rv g (by simp only [vwK, e1, Res.ofO, ht]; exact ⟨rfl, rfl, rfl⟩)) fun c s2 ⟨_, I2, ec, _, _⟩ => ?_
    subst ec
    cases c with
    | true => exact thn (JE.go hb I2 g.rel (o1.shift g.ext)) fun u s3 ⟨v2, r2, env2, M2, H2, μ2, I3, rv2, g2, q⟩ => ⟨v2, H2, I3, rv2, q v2 H2 μ2 (g.after g2)⟩
    | false => exact ⟨v, H1, I2, rv, o1 v H1 μ1 g⟩
theorem je_or {rest : List Expr} (hK : p.K = X.K) (ha : JE p X a fa) (hb : JE p X (.BoolOp .Or (b :: rest) pos) fb) : JE p X (.BoolOp .Or (a :: b :: rest) pos) (orE fa fb) := by
  refine JE.of fun pins s σ H Q env M μ I r o => ?_
  refine BoolOp_or (thn (JE.go ha I r (Out.bind o)) fun u s1 ⟨v, r1, env1, M1, H1, μ1, I1, rv, g, o1⟩ => ?_)
  obtain ⟨vv, e1, o1⟩ := vwK_out o1
  cases ht : truth vv with
  | none => rw [ht] at o1; exact o1.elim
  | some t =>
    rw [ht] at o1
    refine thn (truthy_go (P := fun c env M => c = t ∧ env = env1 ∧ M = M1) hK I1 rv g (by simp only [vwK, e1, Res.ofO, ht]; exact ⟨rfl, rfl, rfl⟩)) fun c s2 ⟨_, I2, ec, _, _⟩ => ?_
    subst ec
    cases c with
    | false => exact thn (JE.go hb I2 g.rel (o1.shift g.ext)) fun u s3 ⟨v2, r2, env2, M2, H2, μ2, I3, rv2, g2, q⟩ => ⟨v2, H2, I3, rv2, q v2 H2 μ2 (g.after g2)⟩
    | true => exact ⟨v, H1, I2, rv, o1 v H1 μ1 g⟩
theorem je_ife (hc : JT p X c (tst fc)) (ha : JE p X a fa) (hb : JE p X b fb) : JE p X (.IfExp c a b pos) (ifeE fc fa fb) := by
  refine JE.of fun pins s σ H Q env M μ I r o => ?_
  refine wpAny_IfExp (thn (hc pins s σ H env M μ _ I r (Out.bind o)) fun c s1 ⟨env1, M1, H1, μ1, I1, g1, o1⟩ => ?_)
  cases c with
  | true => exact thn (JE.go ha I1 g1.rel (o1.shift g1.ext)) fun u s3 ⟨v2, r2, env2, M2, H2, μ2, I3, rv2, g2, q⟩ => ⟨v2, H2, I3, rv2, q v2 H2 μ2 (g1.got g2)⟩
  | false => exact thn (JE.go hb I1 g1.rel (o1.shift g1.ext)) fun u s3 ⟨v2, r2, env2, M2, H2, μ2, I3, rv2, g2, q⟩ => ⟨v2, H2, I3, rv2, q v2 H2 μ2 (g1.got g2)⟩
theorem je_neg (h : JE p X a fa) : JE p X (.UnaryOp .USub a pos) (un1 negO fa) := by
  refine JE.of fun pins s σ H Q env M μ I r o => ?_
  refine UnaryOp_ (thn (JE.go h I r (Out.bind o)) fun u s1 ⟨v, r1, env1, M1, H1, μ1, I1, rv, g, o1⟩ => ?_)
  obtain ⟨vv, e1, o1⟩ := vwK_out o1
  obtain ⟨r2, e2, q⟩ := optE_out o1
  have h := g.rep.view g.rel e1
  unfold negO at e2
  split at e2
  · cases e2
    obtain ⟨h, _⟩ := h; cases h
    exact un_neg pins s1 σ H1 _ u Q I1 rv ⟨_, rfl, q _ H1 μ1 ⟨g.rel, g.sk, .int _, g.ext, trivial⟩⟩
  · cases e2
end
end Iv

/-! Iv: chains, in, subscripts, slices. -/
namespace Iv
open PySem PySem.Spec PyProof.Rows L2
section
variable {p : Pm} {X : Cx} {σ : L2.St} {H H1 : Hp} {env env1 : Env} {M M1 : Mem} {μ μ1 : List Addr} {pins : List (Addr × Obj)} {s : Shared} {a b c e : Expr} {fa fb fc fe : Ev} {pos : Pos}
/-- a comparison as an operation -/
abbrev OpC (p : Pm) (X : Cx) (op : CmpOp) (co : Cop) : Prop := OpS p X (compareOp op) (fun M v w => (cmpO M co v w).map fun c => .val (.bl c))
theorem OpC.go {op : CmpOp} {co : Cop} (h : OpC p X op co) (I : Inv X pins σ H s) (rel : Rel p.w p.K env M μ σ H) {x y : V} {v u : Value} {va vb : Vw} {t : Bool} (ha : VAt p.w p.K H μ va x) (hb : VAt p.w p.K H μ vb y) (rx : RelV x v) (ry : RelV y u) (e : cmpO M co va vb = some t) :
    wpAny (model X.prog X.w) X.A (compareOp op v u) (fun cv s1 => cv = .bool t ∧ ∃ H1, Inv X pins σ H1 s1 ∧ Same H H1) X.xe s := by
  refine thn (h pins s σ H env M μ x y v u va vb (.val (.bl t)) (fun z H1 => z = .bl t ∧ Same H H1) I rel ha hb rx ry (by show (cmpO M co va vb).map _ = _; rw [e]; rfl) fun z H1 sm rz _ => ?_) fun cv s1 ⟨z, H1, I1, rz, ez, sm⟩ => ?_
  · cases rz; exact ⟨rfl, sm⟩
  · subst ez; cases rz; exact ⟨rfl, H1, I1, sm⟩
theorem Got.grow {r : R} {v : V} (g : Got p σ H env μ r env1 M1 v H1 μ1) {H2 : Hp} (sm : Same H1 H2) : Got p σ H env μ r env1 M1 v H2 μ1 :=
  ⟨g.rel.grow sm, g.sk, g.rep.ext (Ext.grow sm) (SK.refl _).kind, g.ext.trans (Ext.grow sm), g.new⟩
theorem je_chn {op1 op2 : CmpOp} {o1 o2 : Cop} (h1 : OpC p X op1 o1) (h2 : OpC p X op2 o2) (ha : JE p X a fa) (hb : JE p X b fb) (hc : JE p X c fc) (hm : lastMarks [op1, op2] [b, c] = false) : JE p X (.Compare a [op1, op2] [b, c] pos) (chnE o1 o2 fa fb fc) := by
  refine JE.of fun pins s σ H Q env M μ I r o => ?_
  refine Compare_chain (thn (JE.go ha I r (Out.bind o)) fun v s1 ⟨x, r1, env1, M1, H1, μ1, I1, rx, g1, o1⟩ => chain_link (thn (JE.go hb I1 g1.rel (o1.shift g1.ext).bind) fun u s2 ⟨y, r2, env2, M2, H2, μ2, I2, ry, g2, o2⟩ => ?_)) hm
  have rep1 := g1.rep.later g2
  split at o2
  · rename_i v1 v2 e1 e2
    split at o2
    · rename_i ec
      refine thn (h1.go I2 g2.rel (rep1.view g2.rel e1) (g2.rep.view g2.rel e2) rx ry ec) fun cv s3 ⟨ecv, H3, I3, sm⟩ => ?_
      subst ecv
      have g3 := (g1.after g2).grow sm
      refine wpAny_truthy_bool (ite_tt (chain_last (thn (JE.go hc I3 g3.rel ((o2.shift (g2.ext.trans (Ext.grow sm))).bind)) fun w' s4 ⟨z, r3, env3, M3, H4, μ3, I4, rz, g4, o3⟩ => ?_)))
      have rep2 := g3.rep.later g4
      split at o3
      · rename_i w1 w2 f1 f2
        obtain ⟨r4, e4, q⟩ := optE_out o3
        refine h2 pins s4 σ H4 env3 M3 μ3 y z u w' w1 w2 r4 Q I4 g4.rel (rep2.view g4.rel f1) (g4.rep.view g4.rel f2) ry rz e4 fun x2 H5 sm2 r5 f5 => ?_
        exact q x2 H5 μ3 (g3.after (g4.after (Got.made g4.rel sm2 r5 f5)))
      · exact o3.elim
    · rename_i ec
      refine thn (h1.go I2 g2.rel (rep1.view g2.rel e1) (g2.rep.view g2.rel e2) rx ry ec) fun cv s3 ⟨ecv, H3, I3, sm⟩ => ?_
      subst ecv
      have g3 := (g1.after g2).grow sm
      exact wpAny_truthy_bool (ite_ff ⟨.bl false, H3, I3, rfl, o2 _ H3 μ2 ⟨g3.rel, g3.sk, .bl _, g3.ext, trivial⟩⟩)
    · exact o2.elim
  · exact o2.elim
/-- the chain's truth -/
theorem jt_chn {op1 op2 : CmpOp} {o1 o2 : Cop} (hK : p.K = X.K) (h1 : OpC p X op1 o1) (h2 : OpC p X op2 o2) (ha : JE p X a fa) (hb : JE p X b fb) (hc : JE p X c fc) (hm : lastMarks [op1, op2] [b, c] = false) : JTw p X (.Compare a [op1, op2] [b, c] pos) (tst (chnE o1 o2 fa fb fc)) := by
  intro whole pins s σ H env M μ P I r o
  have o := Out.bind o
  unfold chnE at o
  refine isTrue_chain (thn (JE.go ha I r (Out.bind o)) fun v s1 ⟨x, r1, env1, M1, H1, μ1, I1, rx, g1, o1⟩ => test_link (thn (JE.go hb I1 g1.rel (o1.shift g1.ext).bind) fun u s2 ⟨y, r2, env2, M2, H2, μ2, I2, ry, g2, o2⟩ => ?_)) hm
  have rep1 := g1.rep.later g2
  split at o2
  · rename_i v1 v2 e1 e2
    split at o2
    · rename_i ec
      refine thn (h1.go I2 g2.rel (rep1.view g2.rel e1) (g2.rep.view g2.rel e2) rx ry ec) fun cv s3 ⟨ecv, H3, I3, sm⟩ => ?_
      subst ecv
      have g3 := (g1.after g2).grow sm
      refine wpAny_truthy_bool (ite_tt (test_last (thn (JE.go hc I3 g3.rel ((o2.shift (g2.ext.trans (Ext.grow sm))).bind)) fun w' s4 ⟨z, r3, env3, M3, H4, μ3, I4, rz, g4, o3⟩ => ?_)))
      have rep2 := g3.rep.later g4
      split at o3
      · rename_i w1 w2 f1 f2
        obtain ⟨r4, e4, q⟩ := optE_out o3
        obtain ⟨t, et, rfl⟩ := Option.map_eq_some_iff.mp e4
        refine thn (h2.go I4 g4.rel (rep2.view g4.rel f1) (g4.rep.view g4.rel f2) ry rz et) fun cv s5 ⟨ecv, H5, I5, sm2⟩ => ?_
        subst ecv
        have g5 := (g3.after g4).grow sm2
        exact wpAny_truthy_bool ⟨env3, M3, H5, μ3, I5, g5.toB, q⟩
      · exact o3.elim
    · rename_i ec
      refine thn (h1.go I2 g2.rel (rep1.view g2.rel e1) (g2.rep.view g2.rel e2) rx ry ec) fun cv s3 ⟨ecv, H3, I3, sm⟩ => ?_
      subst ecv
      have g3 := (g1.after g2).grow sm
      exact wpAny_truthy_bool (ite_ff ⟨env2, M2, H3, μ2, I3, g3.toB, o2⟩)
    · exact o2.elim
  · exact o2.elim

/-! ### in, of lists, tuples, texts -/
theorem any_toP : ∀ (n m : Nat) (xs : List D) (d : D), D.pureNs n xs = true → D.pureN m d = true → ((D.toPs xs).any fun y => PyData.eqv y (D.toP d)) = xs.any fun y => D.eqp y d
  | n, m, [], d, _, _ => rfl
  | n, m, x :: xs, d, h, hd => by
    simp only [D.pureNs, Bool.and_eq_true] at h
    simp only [D.toPs, List.any_cons]
    rw [eqp_toP n m x d h.1 hd, any_toP n m xs d h.2 hd]
theorem mem_go {neg : Bool} {v u : Value} {x y : V} {va vb : Vw} {t : Bool} {Q : VK} (hK : p.K = X.K) (hu : X.A.units + 80 < cLine) (I : Inv X pins σ H s) (rel : Rel p.w p.K env M μ σ H) (ha : VAt p.w p.K H μ va x) (hb : VAt p.w p.K H μ vb y) (rx : RelV x v) (ry : RelV y u)
    (e : memO M va vb = some t) (q : Q (.bl (if neg then !t else t)) H) : wpAny (model X.prog X.w) X.A (compareOp (if neg then .NotIn else .In) v u) (EP X pins σ Q) X.xe s := by
  have fin : ∀ {c : Bool}, c = (if neg then !t else t) → EP X pins σ Q (.bool c) s := fun {c} h => by subst h; exact ⟨.bl _, H, I, rfl, q⟩
  have roomy : ∀ {xs : List D} {d : D}, D.pureNs 60 xs = true → D.pureN 61 d = true → X.A.units + 1 + min (PyData.depthAll (D.toPs xs)) (D.toP d).depth < cLine := fun {xs d} h1 h2 => by
    have := (toPs_ok 60 xs h1).2
    omega
  unfold memO at e
  split at e
  · split at e
    · rename_i xs d ys e1 e2
      cases e
      obtain ⟨h1, p1⟩ := ha.cmp rel e1
      obtain ⟨hb, _⟩ := hb
      cases hb with
      | tup ht he =>
        obtain ⟨h3, h4⟩ := derefs_dp rel he e2
        rw [hK] at h1 h3 ht
        obtain ⟨as, r1⟩ := Dp.reads I _ x v h1 rx
        obtain ⟨bs, r2⟩ := Dp.reads I (.tuple _) _ u (.tup ht h3) ry
        have e5 := any_toP 60 61 ys d h4 p1
        cases neg with
        | false => exact SeqAt.in_tuple_reads r2 r1 (toPs_ok 60 ys h4).1 (toP_ok 61 d p1).1 (roomy h4 p1) (fin e5)
        | true => exact SeqAt.notIn_tuple_reads r2 r1 (toPs_ok 60 ys h4).1 (toP_ok 61 d p1).1 (roomy h4 p1) (fin (congrArg not e5))
    · cases e
  · split at e
    · rename_i xs d ys e1 e2
      cases e
      obtain ⟨h1, p1⟩ := ha.cmp rel e1
      obtain ⟨a, vs, rfl, hr, he⟩ := hb
      obtain ⟨h3, h4⟩ := derefs_dp rel he e2
      rw [hK] at h1 h3 hr
      obtain ⟨as, r1⟩ := Dp.reads I _ x v h1 rx
      obtain ⟨bs, r2⟩ := Dp.reads I (.list _) _ u (.lst hr h3) ry
      have e5 := any_toP 60 61 ys d h4 p1
      cases neg with
      | false => exact SeqAt.in_list_reads r2 r1 (toPs_ok 60 ys h4).1 (toP_ok 61 d p1).1 (roomy h4 p1) (fin e5)
      | true => exact SeqAt.notIn_list_reads r2 r1 (toPs_ok 60 ys h4).1 (toP_ok 61 d p1).1 (roomy h4 p1) (fin (congrArg not e5))
    · cases e
  · split at e
    · cases e
      obtain ⟨ha, _⟩ := ha; obtain ⟨hb, _⟩ := hb
      cases ha; cases hb
      cases neg with
      | false => exact op_in_str pins s σ H _ _ v u Q I rx ry ⟨_, _, rfl, rfl, q⟩
      | true => exact op_notin_str pins s σ H _ _ v u Q I rx ry ⟨_, _, rfl, rfl, q⟩
    · cases e
  · cases e

/-! ### subscripts -/
theorem atI_of {α : Type} {xs : List α} {i : Int} {v : α} (h : ((ixN xs.length i).bind fun j => xs[j]?) = some v) : atI xs i = some v := h
theorem Encs.atI {w : World} {K : PySem.W.Frag} {xs : List D} {vs : List V} {i : Int} {d : D} (h : Encs w K H μ xs vs) (e : ((ixN xs.length i).bind fun j => xs[j]?) = some d) : ∃ v, L2.atI vs i = some v ∧ Enc w K H μ d v := by
  obtain ⟨j, e1, e2⟩ := Option.bind_eq_some_iff.mp e
  obtain ⟨v, h1, h2⟩ := h.get e2
  refine ⟨v, ?_, h2⟩
  unfold L2.atI
  rw [← h.length]
  have e1 : L2.ixN xs.length i = some j := e1
  rw [e1]; exact h1
def isSlice : Expr → Bool
  | .Slice _ _ _ _ => true
  | _ => false
theorem je_sub (hK : p.K = X.K)
    (ha : JE p X a fa) (hb : JE p X b fb) (hs : PlainIx b) : JE p X (.Subscript a b pos) (subE fa fb) := by
  refine JE.of fun pins s σ H Q env M μ I r o => ?_
  refine Subscript_ (thn (JE.go ha I r (Out.bind o)) fun v s1 ⟨x, r1, env1, M1, H1, μ1, I1, rx, g1, o1⟩ => thn (JE.go hb I1 g1.rel (o1.shift g1.ext).bind) fun u s2 ⟨y, r2, env2, M2, H2, μ2, I2, ry, g2, o2⟩ => ?_)
  have rep1 := g1.rep.later g2
  split at o2
  · rename_i v1 v2 e1 e2
    obtain ⟨r3, e3, q⟩ := optE_out o2
    obtain ⟨d, e4, rfl⟩ := Option.map_eq_some_iff.mp e3
    have h1 := rep1.view g2.rel e1
    have h2 := g2.rep.view g2.rel e2
    have fin : ∀ z, Enc p.w p.K H2 μ2 d z → Q z H2 := fun z h => q z H2 μ2 (g1.after (g2.after ⟨g2.rel, SK.refl _, h, Ext.refl, trivial⟩))
    unfold subO at e4
    split at e4
    · obtain ⟨h1, _⟩ := h1; obtain ⟨h2, _⟩ := h2
      cases h2
      cases h1 with
      | tup ht he =>
        obtain ⟨z, z1, z2⟩ := he.atI e4
        exact ix_tup a b pins s2 σ H2 _ _ v u Q I2 rx ry ⟨_, _, _, z, rfl, rfl, hK ▸ ht, z1, fin z z2⟩ (hs _ _)
    · obtain ⟨a1, vs, rfl, hr, he⟩ := h1
      obtain ⟨h2, _⟩ := h2
      cases h2
      obtain ⟨z, z1, z2⟩ := he.atI e4
      exact ix_list a b pins s2 σ H2 _ _ v u Q I2 rx ry ⟨_, _, _, z, rfl, rfl, hK ▸ hr, z1, fin z z2⟩ (hs _ _)
    · split at e4
      · rename_i hz
        obtain ⟨h1, _⟩ := h1; obtain ⟨h2, _⟩ := h2
        cases h1; cases h2
        obtain ⟨j, j1, j2⟩ := Option.bind_eq_some_iff.mp e4
        obtain ⟨c, c1, rfl⟩ := Option.map_eq_some_iff.mp j2
        refine ix_str a b pins s2 σ H2 _ _ v u Q I2 rx ry ⟨_, _, c, rfl, rfl, by simpa [lineOk] using hz, ?_, fin _ (.str _)⟩ (hs _ _)
        unfold L2.atI
        have j1 : L2.ixN _ _ = some j := j1
        rw [j1]; exact c1
      · cases e4
    · cases e4
  · exact o2.elim

/-! ### slices -/
theorem sIx_eq (n d : Nat) (o : Option Int) : sIx n d o = HT.sIx n d o := by
  unfold sIx HT.sIx
  cases o with
  | none => rfl
  | some v => rfl
theorem cut_eq (xs : List V) (lo hi : Option Int) : cutV xs lo hi = cut xs lo hi := by
  unfold cutV cut
  simp only [sIx_eq]
theorem Encs.cut {w : World} {K : PySem.W.Frag} {xs : List D} {vs : List V} (lo hi : Option Int) (h : Encs w K H μ xs vs) : Encs w K H μ (Iv.cut xs lo hi) (cutV vs lo hi) := by
  rw [cut_eq]
  unfold Iv.cut
  rw [h.length]
  exact (h.drop _).take _
/-- a part of a slice -/
structure JO (p : Pm) (X : Cx) (e : Option Expr) (f : Ev) : Prop where
  run : ∀ (pins : List (Addr × Obj)) (s : Shared) (σ : L2.St) (H : Hp) (env : Env) (M : Mem) (μ : List Addr) (P : R → Env → Mem → Prop), Inv X pins σ H s → Rel p.w p.K env M μ σ H → Out p σ H env μ (f env M) P →
    wpAny (model X.prog X.w) X.A (evalPart e X.env) (fun u s1 => ∃ r env1 M1 H1 μ1, Inv X pins σ H1 s1 ∧ GotB p σ H env μ env1 M1 H1 μ1 ∧ P r env1 M1 ∧ ∀ o, optR r = some o → IsPart u o) X.xe s
theorem jo_none : JO p X none (pureE (.val .non)) := ⟨fun pins s σ H env M μ P I r o => by
  refine thn (po_none.run pins s σ H (fun o H1 => o = none ∧ H1 = H) I ⟨rfl, rfl⟩) fun u s1 ⟨o1, H1, I1, pt, e1, e2⟩ => ?_
  subst e1 e2
  refine ⟨.val .non, env, M, H1, μ, I1, GotB.refl r, o, fun oo ho => ?_⟩
  simp only [optR, Option.some.injEq] at ho; subst ho
  exact pt⟩
theorem jo_some (h : JE p X e fe) : JO p X (some e) fe := ⟨fun pins s σ H env M μ P I r o => by
  rw [evalPart_some]
  refine thn (JE.go h I r o) fun u s1 ⟨v, r1, env1, M1, H1, μ1, I1, rv, g, o1⟩ => ?_
  refine ⟨r1, env1, M1, H1, μ1, I1, g.toB, o1, fun oo ho => ?_⟩
  cases r1 with
  | val d =>
    have h1 : Enc p.w p.K H1 μ1 d v := g.rep
    cases d with
    | int i => cases h1; simp only [optR, Option.some.injEq] at ho; subst ho; obtain ⟨t, rfl⟩ := rv; exact .int i t
    | non => cases h1; simp only [optR, Option.some.injEq] at ho; subst ho; have rv : u = .none := rv; subst rv; exact .none
    | _ => cases ho
  | own _ => cases ho
  | lnd _ => cases ho⟩
theorem GotB.later {r : R} {v : V} (h : RRep p.w p.K env μ σ H r v) (g : GotB p σ H env μ env1 M1 H1 μ1) : RRep p.w p.K env1 μ1 σ H1 r v := h.ext g.ext g.sk.kind
theorem je_slc {lo hi : Option Expr} {fl fh : Ev} {p2 : Pos} (hK : p.K = X.K) (ha : JE p X a fa) (hl : JO p X lo fl) (hh : JO p X hi fh) : JE p X (.Subscript a (.Slice lo hi none p2) pos) (slcE fa fl fh) := by
  refine JE.of fun pins s σ H Q env M μ I r o => ?_
  refine Subscript_ (thn (JE.go ha I r (Out.bind o)) fun v s1 ⟨x, r1, env1, M1, H1, μ1, I1, rx, g1, o1⟩ => ?_)
  refine wpAny_Slice (thn (hl.run pins s1 σ H1 env1 M1 μ1 _ I1 g1.rel (o1.shift g1.ext).bind) fun vl s2 ⟨r2, env2, M2, H2, μ2, I2, g2, o2, pl⟩ => thn (hh.run pins s2 σ H2 env2 M2 μ2 _ I2 g2.rel (o2.shift g2.ext).bind) fun vu s3 ⟨r3, env3, M3, H3, μ3, I3, g3, o3, pu⟩ => ?_)
  rw [evalPart_none]
  refine wpAny_pure ?_
  have I4 : Inv X pins σ H3 { s3 with heap := s3.heap.push { cls := .type "slice", data := .fields #[vl, vu, .none] } } := I3.kept (t' := s3.toks) fun b ob q => Heap.get?_push_of_some _ q
  have rep := GotB.later (GotB.later g1.rep g2) g3
  have gb := (g1.toB.trans g2).trans g3
  cases e1 : vw env3 M3 r1 with
  | none => rw [e1] at o3; exact o3.elim
  | some vv =>
  cases e2 : optR r2 with
  | none => rw [e1, e2] at o3; exact o3.elim
  | some l =>
  cases e3 : optR r3 with
  | none => rw [e1, e2, e3] at o3; exact o3.elim
  | some u =>
  rw [e1, e2, e3] at o3
  obtain ⟨r4, e4, q⟩ := optE_out o3
  have hv := rep.view gb.rel e1
  have pl := pl l e2
  have pu := pu u e3
  have sl := Heap.IsSliceOf.new s3.heap vl vu .none
  show wpAny (model X.prog X.w) X.A (subscriptTail a (.Slice lo hi none p2) v (.ref s3.heap.objs.size)) (EP X pins σ Q) X.xe { s3 with heap := s3.heap.push { cls := .type "slice", data := .fields #[vl, vu, .none] } }
  unfold slcO at e4
  split at e4
  · cases e4
    obtain ⟨hv, _⟩ := hv
    cases hv with
    | tup ht he =>
      rename_i aa vs
      have hq : rSlA X.K (.ref aa) l u H3 Q := ⟨_, _, rfl, hK ▸ ht, fun hw => by
        refine q _ H3 μ3 (gb.got ⟨gb.rel, SK.refl _, .tup ht ?_, Ext.refl, trivial⟩)
        have hc := he.cut l u
        have : cutV vs l u = vs := by
          unfold cutV
          rw [hw.1, hw.2]
          rw [List.drop_zero, Nat.sub_zero, List.take_length]
        rw [this] at hc
        exact hc, fun hw pp hp => by
        have sm := same_new (o := .tup (cutV vs l u)) hp
        exact q _ _ μ3 (gb.got ⟨gb.rel.grow sm, SK.refl _, .tup (.inl (.inl upd_same)) ((he.cut l u).mono (FzE.of_same sm) fun _ _ z => z), Ext.grow sm, trivial⟩)⟩
      obtain ⟨T, id, hT, htt, hg⟩ := sl_tupA pins _ σ H3 _ v vl vu l u _ Q I4 rx sl pl pu hq
      exact tail_any (ops := [.ref s3.heap.objs.size, v]) htt hT hg (by with_unfolding_all rfl)
  · cases e4
    obtain ⟨a1, vs, rfl, hr, he⟩ := hv
    have hq : rSlL X.K (.ref a1) l u H3 Q := ⟨_, _, rfl, hK ▸ hr, fun pp hp => by
      have sm := same_new (o := .lst (cutV vs l u)) hp
      obtain ⟨n1, n2⟩ := gb.rel.new hp
      exact q _ _ μ3 (gb.got ⟨gb.rel.grow sm, SK.refl _, ⟨_, rfl, ⟨_, upd_same, (he.cut l u).mono (FzE.of_same sm) fun _ _ z => z⟩, n1, n2⟩, Ext.grow sm, fun b e => by cases e; exact hp⟩)⟩
    obtain ⟨T, id, hT, htt, hg⟩ := sl_list pins _ σ H3 _ v vl vu l u _ Q I4 rx sl pl pu hq
    exact tail_any (ops := [.ref s3.heap.objs.size, v]) htt hT hg (by with_unfolding_all rfl)
  · split at e4
    · rename_i z hz
      cases e4
      obtain ⟨hv, _⟩ := hv
      cases hv
      have hz : z.length ≤ sizeLine := by simpa [lineOk] using hz
      have hq : rSlS (.str z) l u H3 Q := ⟨z, rfl, hz, by
        have ec : cutS z l u = ⟨(cut z.cps.toList l u).toArray⟩ := by
          unfold cutS cut
          simp only [sIx_eq]
          have hl : z.cps.toList.length = z.length := by simp [Str.length]
          rw [hl]
        rw [ec]
        exact q _ H3 μ3 (gb.got ⟨gb.rel, SK.refl _, .str _, Ext.refl, trivial⟩)⟩
      obtain ⟨T, id, hT, htt, hg⟩ := sl_str pins _ σ H3 _ v vl vu l u _ Q I4 rx sl pl pu hq
      exact tail_any (ops := [.ref s3.heap.objs.size, v]) htt hT hg (by with_unfolding_all rfl)
    · cases e4
  · cases e4
end
end Iv

/-! Iv: what is gone through; targets; tests in a row. -/
namespace Iv
open PySem PySem.Spec PyProof.Rows L2

/-- what is protected stands, and what is never changed -/
def Kept (S : List Addr) (H0 H : Hp) : Prop := (∀ a ∈ S, H a = H0 a) ∧ FzE H0 H
/-- the iterator yields just these -/
structure Ys (w : World) (K : PySem.W.Frag) (J : It) (ds : List D) (H0 : Hp) (μ0 S : List Addr) : Prop where
  go : ∀ i H, Kept S H0 H → i < ds.length → J.go i H
  yld : ∀ i H x H' d, Kept S H0 H → ds[i]? = some d → J.yld i H x H' → Same H H' ∧ Enc w K H' μ0 d x
  stop : ∀ i H, Kept S H0 H → ds.length ≤ i → J.stop i H
/-- no one but the slot lk may change what is protected -/
def Prot (env : Env) (μ : List Addr) (σ : L2.St) (H : Hp) (lk : Option Nat) (S : List Addr) : Prop :=
  ∀ a ∈ S, (∃ u, H a = some u) ∧ a ∉ μ ∧ (Owned env σ a → ∃ (i : Nat) (o : Ob), lk = some i ∧ env[i]? = some (some (.own o)) ∧ σ[i]? = some (some (.ref a)))
def tI (p : Pm) (f : Env → Mem → Res (List D × Option Nat)) : TI := fun σ H R => ∃ env M μ, Rel p.w p.K env M μ σ H ∧ Out p σ H env μ (f env M) fun l env1 M1 =>
  ∀ J H1 μ1 S, GotB p σ H env μ env1 M1 H1 μ1 → Ys p.w p.K J l.1 H1 μ1 S → Prot env1 μ1 σ H1 l.2 S → (∀ a ∈ S, Held env1 σ a ∨ H a = none) → R J H1
abbrev JI (p : Pm) (X : Cx) (tg e : Expr) (f : Env → Mem → Res (List D × Option Nat)) : Prop := PI X tg e (tI p f)
section
variable {p : Pm} {X : Cx} {σ : L2.St} {H H1 : Hp} {env env1 : Env} {M M1 : Mem} {μ μ1 : List Addr} {pins : List (Addr × Obj)} {s : Shared} {a b c e tg : Expr} {es : List Expr} {fa fb fc fe : Ev} {fs : Evs} {pos : Pos}
theorem Kept.of {S : List Addr} {lk : Option Nat} {env' : Env} {μ' : List Addr} {σ' : L2.St} {H' : Hp} (q : Prot env μ σ H lk S) (n : ∀ a ∈ S, ¬ Owned env σ a) (x : Ext env μ σ H env' μ' σ' H') : Kept S H H' := by
  refine ⟨fun a ha => ?_, x.fz⟩
  obtain ⟨⟨u, hu⟩, h1, _⟩ := q a ha
  rw [x.keep a u hu h1 (n a ha), hu]
theorem ys_tup {w : World} {K : PySem.W.Frag} {a : Addr} {vs : List V} {ds : List D} (h : SqT K H a vs) (he : Encs w K H μ ds vs) : Ys w K (Itt K a) ds H μ [] := by
  refine ⟨fun i H2 k hi => ?_, fun i H2 x H' d k hd y => ?_, fun i H2 k hi => ?_⟩
  · obtain ⟨v, hv, _⟩ := he.get (List.getElem?_eq_getElem hi)
    exact ⟨vs, v, SqT.fz k.2 h, hv⟩
  · obtain ⟨rfl, y⟩ := y
    refine ⟨fun _ _ z => z, ?_⟩
    obtain ⟨v, hv, hd⟩ := he.get hd
    have := y vs (SqT.fz k.2 h)
    rw [hv] at this; cases this
    exact hd.mono k.2 fun _ _ z => z
  · exact ⟨vs, SqT.fz k.2 h, by rw [← he.length]; exact hi⟩
theorem ys_list {w : World} {K : PySem.W.Frag} {a : Addr} {vs : List V} {ds : List D} {S : List Addr} (h : ∀ H', Kept S H H' → SqL K H' a vs) (he : Encs w K H μ ds vs) : Ys w K (Itl K a) ds H μ S := by
  refine ⟨fun i H2 k hi => ?_, fun i H2 x H' d k hd y => ?_, fun i H2 k hi => ?_⟩
  · obtain ⟨v, hv, _⟩ := he.get (List.getElem?_eq_getElem hi)
    exact ⟨vs, v, h _ k, hv⟩
  · obtain ⟨rfl, y⟩ := y
    refine ⟨fun _ _ z => z, ?_⟩
    obtain ⟨v, hv, hd⟩ := he.get hd
    have := y vs (h _ k)
    rw [hv] at this; cases this
    exact hd.mono k.2 fun _ _ z => z
  · exact ⟨vs, h _ k, by rw [← he.length]; exact hi⟩
theorem ys_rng {w : World} {K : PySem.W.Frag} (lo : Int) (n : Nat) : Ys w K (Itr lo n) (rangeD lo n) H μ [] := by
  have hl : (rangeD lo n).length = n := by simp [rangeD]
  refine ⟨fun i H2 k hi => ?_, fun i H2 x H' d k hd y => ?_, fun i H2 k hi => ?_⟩
  · rw [hl] at hi; exact hi
  · obtain ⟨rfl, rfl⟩ := y
    refine ⟨fun _ _ z => z, ?_⟩
    obtain ⟨hi, e⟩ := List.getElem?_eq_some_iff.mp hd
    simp only [rangeD, List.getElem_map, List.getElem_range] at e
    subst e
    exact .int _
  · rw [hl] at hi; exact hi
theorem ji_iter (hK : p.K = X.K) (h : JE p X e fe) : JI p X tg e (iterE fe) := by
  refine ⟨fun pins s σ H R I ⟨env, M, μ, r, o⟩ => ?_⟩
  refine thn (JE.go h I r (Out.bind o)) fun u s1 ⟨v, r1, env1, M1, H1, μ1, I1, rv, g, o1⟩ => ?_
  have o2 : ∃ (vv : Vw) (ds : List D), vw env1 M1 r1 = some vv ∧ vv.iter = some ds ∧ r1.isRef = false ∧ (∀ J H1 μ1 S, GotB p σ H env μ env1 M1 H1 μ1 → Ys p.w p.K J ds H1 μ1 S → Prot env1 μ1 σ H1 (lkOf r1) S → (∀ a ∈ S, Held env1 σ a ∨ H a = none) → R J H1) := by
    split at o1
    · exact o1.elim
    · rename_i hr
      cases e1 : (vw env1 M1 r1).bind Vw.iter with
      | none => rw [e1] at o1; exact o1.elim
      | some ds =>
        rw [e1] at o1
        obtain ⟨vv, e2, e3⟩ := Option.bind_eq_some_iff.mp e1
        exact ⟨vv, ds, e2, e3, by simpa using hr, o1⟩
  obtain ⟨vv, ds, e1, e2, nr, q⟩ := o2
  have hv := g.rep.view g.rel e1
  have new : ∀ {tn : Nat → Heap → Prop} {J : It} {S : List Addr} {o : Obj}, Turn X.prog X.w X.K tg J [s1.heap.objs.size] s1.heap.objs.size tn → tn 0 (s1.heap.push o) → R J H1 →
      PIE X pins σ tg R (.ref s1.heap.objs.size) { s1 with heap := s1.heap.push o } := fun {tn J S o} T t0 hR => by
    refine ⟨s1.heap.objs.size, [s1.heap.objs.size], tn, J, H1, rfl, I1.kept (t' := s1.toks) fun b o e => Heap.get?_push_of_some _ e, T, t0, fun b hb => ?_, hR⟩
    have e : b = s1.heap.objs.size := by simpa using hb
    subst e
    exact I1.fpOk (Nat.le_refl _) (I1.hok.fresh (Nat.le_refl _))
  cases vv with
  | dat d =>
    cases d with
    | tup xs =>
      cases (show some xs = some ds from e2)
      obtain ⟨hv, _⟩ := hv
      cases hv with
      | tup ht he =>
        have rv : u = .ref _ := rv
        subst rv
        obtain ⟨its, r2, pt, hz⟩ := I1.tuple (hK ▸ ht)
        refine wpAny_pyIter_tuple (show s1.heap.IsTuple _ its.toArray from pt) ?_
        exact new (S := []) (turn_tuple _ _) ⟨_, Heap.get?_push_size _ rfl, rfl, rfl⟩ (q _ H1 μ1 [] g.toB (hK ▸ ys_tup ht he) (fun a ha => nomatch ha) (fun a ha => nomatch ha))
    | _ => cases e2
  | obj o =>
    cases o with
    | lst xs =>
      cases (show some xs = some ds from e2)
      have live : ∀ {a : Addr} {vs : List V}, H1 a = some (.lst vs) → a ∉ μ1 → (Owned env1 σ a → ∃ (i : Nat) (o : Ob), lkOf r1 = some i ∧ env1[i]? = some (some (.own o)) ∧ σ[i]? = some (some (.ref a))) → (Held env1 σ a ∨ H a = none) →
          (∀ H', Kept [a] H1 H' → SqL p.K H' a vs) ∧ Prot env1 μ1 σ H1 (lkOf r1) [a] ∧ (∀ b ∈ [a], Held env1 σ b ∨ H b = none) := fun {a vs} hl h1 h2 h3 =>
        ⟨fun H' k => .inl (.inl ((k.1 a (by simp)).trans hl)), fun b hb => by
          have e : b = a := by simpa using hb
          subst e
          exact ⟨⟨_, hl⟩, h1, h2⟩, fun b hb => by
          have e : b = a := by simpa using hb
          subst e
          exact h3⟩
      have key : ∃ a vs S, v = .ref a ∧ SqL p.K H1 a vs ∧ Encs p.w p.K H1 μ1 ds vs ∧ (∀ H', Kept S H1 H' → SqL p.K H' a vs) ∧ Prot env1 μ1 σ H1 (lkOf r1) S ∧ (∀ b ∈ S, Held env1 σ b ∨ H b = none) := by
        cases r1 with
        | own ob =>
          simp only [vw, Option.some.injEq, Vw.obj.injEq] at e1
          subst e1
          obtain ⟨a, rfl, ⟨vs, h1, h2⟩, h3, h4⟩ := g.rep
          obtain ⟨k1, k2, k3⟩ := live h1 h3 (fun z => absurd (.inl z) h4) (.inr (g.new _ rfl))
          exact ⟨a, vs, [a], rfl, .inl (.inl h1), h2, k1, k2, k3⟩
        | lnd i =>
          obtain ⟨h1, _⟩ := g.rep
          simp only [vw] at e1
          split at e1
          · rename_i ob eo
            cases e1
            obtain ⟨a, q1, ⟨vs, q2, q2'⟩, q3⟩ := g.rel.own i _ eo
            rw [h1] at q1; cases q1
            obtain ⟨k1, k2, k3⟩ := live q2 q3 (fun _ => ⟨i, _, rfl, eo, h1⟩) (.inl (.inl ⟨i, _, eo, h1⟩))
            exact ⟨a, vs, [a], rfl, .inl (.inl q2), q2', k1, k2, k3⟩
          · rename_i ob eo
            cases e1
            obtain ⟨a, q1, ⟨vs, q2, q2'⟩, q3, q4⟩ := g.rel.lck i _ eo
            rw [h1] at q1; cases q1
            obtain ⟨k1, k2, k3⟩ := live q2 q3 (fun z => absurd z q4) (.inl (.inr ⟨i, _, eo, h1⟩))
            exact ⟨a, vs, [a], rfl, .inl (.inl q2), q2', k1, k2, k3⟩
          · cases e1
        | val d =>
          have h1 : Enc p.w p.K H1 μ1 d v := g.rep
          cases d with
          | ref j => cases nr
          | fl ys =>
            simp only [vw, Option.some.injEq, Vw.obj.injEq, Ob.lst.injEq] at e1
            subst e1
            cases h1 with
            | fl h1 h2 => exact ⟨_, _, [], rfl, h1.seq, h2, fun H' k => (FlAt.fz k.2 h1).seq, (fun a ha => nomatch ha), (fun a ha => nomatch ha)⟩
          | fd kvs => simp [vw] at e1
          | non => simp [vw] at e1
          | bl _ => simp [vw] at e1
          | int _ => simp [vw] at e1
          | str _ => simp [vw] at e1
          | tup _ => simp [vw] at e1
      obtain ⟨a, vs, S, rfl, hr, he, k1, k2, k3⟩ := key
      have rv : u = .ref _ := rv
      subst rv
      obtain ⟨its, r2, pt, hz⟩ := I1.list (hK ▸ hr : SqL X.K H1 a vs)
      refine wpAny_pyIter_list pt.isList ?_
      exact new (S := S) (turn_list _ _) ⟨_, Heap.get?_push_size _ rfl, rfl, rfl⟩ (q _ H1 μ1 S g.toB (hK ▸ ys_list k1 he) k2 k3)
    | _ => cases e2
/-! argument lists of a known length -/
theorem out1 {P : List R → Env → Mem → Prop} (o : Out p σ H env μ (consE fa nilE env M) P) : Out p σ H env μ (fa env M) fun r env M => P [r] env M := (Out.bind o).imp fun _ _ _ q => q
theorem out2 {P : List R → Env → Mem → Prop} (o : Out p σ H env μ (consE fa (consE fb nilE) env M) P) : Out p σ H env μ (fa env M) fun r env1 M1 => Out p σ H env μ (fb env1 M1) fun r2 env M => P [r, r2] env M :=
  (Out.bind o).imp fun _ _ _ q => (Out.bind (Out.bind q)).imp fun _ _ _ q => q
/-- ranges -/
theorem ji_rng (ha : JA p X es fs) (hr : ∀ (ta : TA), PA X es ta → PI X tg e (iRng1 ta)) (hl : ∀ env M rs env1 M1, fs env M = .ok rs env1 M1 → rs.length = 1) : JI p X tg e (rngE fs) := by
  refine ⟨fun pins s σ H R I ⟨env, M, μ, r, o⟩ => (hr _ ha).run pins s σ H R I ⟨env, M, μ, r, ?_⟩⟩
  have o := Out.bind o
  cases hf : fs env M with
  | stuck => rw [hf] at o; exact o.elim
  | exc x env1 M1 => rw [hf] at o; exact o
  | ok rs env1 M1 =>
    rw [hf] at o
    have hl := hl _ _ _ _ _ hf
    have o1 := o
    intro vs H1 μ1 g
    obtain ⟨r1, rfl⟩ := List.length_eq_one_iff.mp hl
    have hrep := g.rep
    cases hrep with
    | cons h1 h2 =>
      cases h2
      cases r1 with
      | val d =>
        cases d with
        | int j =>
          change Out p σ H env μ (if _ then _ else _) _ at o1
          split at o1
          · rename_i hz
            simp only [decide_eq_true_eq] at hz
            cases h1
            exact ⟨j, rfl, hz.1, hz.2, o1 _ H1 μ1 [] ⟨g.rel, g.sk, g.ext⟩ (ys_rng 0 _) (fun a ha => nomatch ha) (fun a ha => nomatch ha)⟩
          · exact o1.elim
        | _ => exact o1.elim
      | _ => exact o1.elim
theorem ji_rng2 (ha : JA p X es fs) (hr : ∀ (ta : TA), PA X es ta → PI X tg e (iRng2 ta)) (hl : ∀ env M rs env1 M1, fs env M = .ok rs env1 M1 → rs.length = 2) : JI p X tg e (rngE fs) := by
  refine ⟨fun pins s σ H R I ⟨env, M, μ, r, o⟩ => (hr _ ha).run pins s σ H R I ⟨env, M, μ, r, ?_⟩⟩
  have o := Out.bind o
  cases hf : fs env M with
  | stuck => rw [hf] at o; exact o.elim
  | exc x env1 M1 => rw [hf] at o; exact o
  | ok rs env1 M1 =>
    rw [hf] at o
    have hl := hl _ _ _ _ _ hf
    have o1 := o
    intro vs H1 μ1 g
    obtain ⟨r1, r2, rfl⟩ : ∃ r1 r2, rs = [r1, r2] := by
      match rs, hl with
      | [a, b], _ => exact ⟨a, b, rfl⟩
    have hrep := g.rep
    cases hrep with
    | cons h1 h2 =>
      cases h2 with
      | cons h2 h3 =>
      cases h3
      cases r1 with
      | val d =>
        cases d with
        | int i =>
          cases r2 with
          | val d =>
            cases d with
            | int j =>
              change Out p σ H env μ (if _ then _ else _) _ at o1
              split at o1
              · rename_i hz
                simp only [decide_eq_true_eq] at hz
                cases h1; cases h2
                exact ⟨i, j, rfl, hz, o1 _ H1 μ1 [] ⟨g.rel, g.sk, g.ext⟩ (ys_rng i _) (fun a ha => nomatch ha) (fun a ha => nomatch ha)⟩
              · exact o1.elim
            | _ => exact o1.elim
          | _ => exact o1.elim
        | _ => exact o1.elim
      | _ => exact o1.elim
/-- how many results -/
theorem nil_len (env : Env) (M : Mem) (rs : List R) (env1 : Env) (M1 : Mem) (h : nilE env M = .ok rs env1 M1) : rs.length = 0 := by cases h; rfl
theorem cons_len {n : Nat} (hs : ∀ env M rs env1 M1, fs env M = .ok rs env1 M1 → rs.length = n) (env : Env) (M : Mem) (rs : List R) (env1 : Env) (M1 : Mem) (h : consE fa fs env M = .ok rs env1 M1) : rs.length = n + 1 := by
  unfold consE at h
  cases h1 : fa env M with
  | stuck => rw [h1] at h; cases h
  | exc _ _ _ => rw [h1] at h; cases h
  | ok r env2 M2 =>
    rw [h1] at h
    change (fs env2 M2).bind _ = _ at h
    cases h2 : fs env2 M2 with
    | stuck => rw [h2] at h; cases h
    | exc _ _ _ => rw [h2] at h; cases h
    | ok rs2 env3 M3 =>
      rw [h2] at h
      cases h
      simp [hs _ _ _ _ _ h2]

/-! ### targets -/
/-- what stands behind a store -/
structure GotT (p : Pm) (σ : L2.St) (H : Hp) (env : Env) (μ : List Addr) (env' : Env) (M' : Mem) (σ' : L2.St) (H' : Hp) (μ' : List Addr) : Prop where
  rel : Rel p.w p.K env' M' μ' σ' H'
  ext : Ext env μ σ H env' μ' σ' H'
abbrev JG (p : Pm) (X : Cx) (tg : Expr) (ft : D → Env → Mem → Res Unit) : Prop := PG X tg (fun v σ H Q => ∃ env M μ d, Rel p.w p.K env M μ σ H ∧ Enc p.w p.K H μ d v ∧ Out p σ H env μ (ft d env M) fun _ env1 M1 => ∀ σ1 H1 μ1, GotT p σ H env μ env1 M1 σ1 H1 μ1 → Q σ1 H1)
abbrev JGs (p : Pm) (X : Cx) (tgs : List Expr) (ft : List D → Env → Mem → Res Unit) : Prop := PGs X tgs (fun v σ H Q => ∃ env M μ d, Rel p.w p.K env M μ σ H ∧ Encs p.w p.K H μ d v ∧ Out p σ H env μ (ft d env M) fun _ env1 M1 => ∀ σ1 H1 μ1, GotT p σ H env μ env1 M1 σ1 H1 μ1 → Q σ1 H1)
theorem isLck_false {env : Env} {i : Nat} (h : isLck env i = false) : ∀ o, env[i]? ≠ some (some (.lck o)) := fun o e => by simp [isLck, e] at h
/-- a slot takes a value -/
theorem Rel.setVal {i : Nat} {d : D} {v : V} (r : Rel p.w p.K env M μ σ H) (h : Enc p.w p.K H μ d v) (hl : isLck env i = false) : GotT p σ H env μ (env.set i (some (.val d))) M (σ.set i (some v)) H μ := by
  have hs : ∀ (j : Nat), j ≠ i → (env.set i (some (.val d)))[j]? = env[j]? ∧ (σ.set i (some v))[j]? = σ[j]? := fun j hj => ⟨List.getElem?_set_ne (Ne.symm hj), List.getElem?_set_ne (Ne.symm hj)⟩
  have hi : ∀ {x : SV}, (env.set i (some (.val d)))[i]? = some (some x) → x = .val d ∧ (σ.set i (some v))[i]? = some (some v) := fun {x} e => by
    by_cases hlt : i < env.length
    · rw [List.getElem?_set_self hlt] at e
      have hlt' : i < σ.length := by rw [← r.len]; exact hlt
      exact ⟨by cases e; rfl, List.getElem?_set_self hlt'⟩
    · rw [List.getElem?_eq_none (by simpa using hlt)] at e; cases e
  have own' : ∀ b, Owned (env.set i (some (.val d))) (σ.set i (some v)) b → Owned env σ b := fun b ⟨j, o, e1, e2⟩ => by
    by_cases hj : j = i
    · subst hj; have := (hi e1).1; cases this
    · rw [(hs j hj).1] at e1; rw [(hs j hj).2] at e2
      exact ⟨j, o, e1, e2⟩
  refine ⟨⟨by simp [r.len], fun j d' e => ?_, fun j o e => ?_, fun j o e => ?_, r.mem, r.mlen, r.nd, fun j j' o o' a e1 e2 e3 e4 => ?_⟩, ⟨⟨[], by simp⟩, fun _ _ h _ _ => h, fun b z => .inl (own' b z), fun j o e => ?_, FzE.refl _, fun _ h => h⟩⟩
  · by_cases hj : j = i
    · subst hj
      obtain ⟨e1, e2⟩ := hi e
      cases e1
      exact ⟨v, e2, h⟩
    · rw [(hs j hj).1] at e; rw [(hs j hj).2]
      exact r.val j d' e
  · by_cases hj : j = i
    · subst hj; have := (hi e).1; cases this
    · rw [(hs j hj).1] at e; rw [(hs j hj).2]
      exact r.own j o e
  · by_cases hj : j = i
    · subst hj; have := (hi e).1; cases this
    · rw [(hs j hj).1] at e; rw [(hs j hj).2]
      obtain ⟨a, h1, h2, h3, h4⟩ := r.lck j o e
      exact ⟨a, h1, h2, h3, fun z => h4 (own' a z)⟩
  · by_cases hj : j = i
    · subst hj; have := (hi e1).1; cases this
    · by_cases hj' : j' = i
      · subst hj'; have := (hi e3).1; cases this
      · rw [(hs j hj).1] at e1; rw [(hs j hj).2] at e2
        rw [(hs j' hj').1] at e3; rw [(hs j' hj').2] at e4
        exact r.sep j j' o o' a e1 e2 e3 e4
  · by_cases hj : j = i
    · subst hj; have := (hi e).1; cases this
    · rw [(hs j hj).1] at e
      exact ⟨e, (hs j hj).2⟩
theorem asgV_val {own : Bool} {i : Nat} {d : D} {env1 : Env} {P : Unit → Env → Mem → Prop} (o : Out p σ H env μ (asgV own i (.val d) env1 M) P) : isLck env1 i = false ∧ P () (env1.set i (some (.val d))) M := by
  unfold asgV at o
  split at o
  · exact o.elim
  · rename_i hz
    simp only [Bool.or_eq_true, not_or, Bool.not_eq_true] at hz
    cases own <;> exact ⟨hz.1, o⟩
theorem jg_name {i : Nat} {x : PySem.Str} {own : Bool} (hN : X.N.Nodup) (hi : X.N[i]? = some x) (hx : Loc X.env.scope x) (hf : X.fn x = true ∨ X.env.scope.names.lookup x = some .local) : JG p X (.Name x pos) (fun d => asgV own i (.val d)) := by
  refine ⟨fun pins s σ H v u Q I rv ⟨env, M, μ, d, r, h, o⟩ => (pg_name hN hi hx hf).run pins s σ H v u Q I rv ?_⟩
  obtain ⟨hl, q⟩ := asgV_val o
  exact q _ H μ (r.setVal h hl)
theorem jgs_nil : JGs p X [] (fun ds env M => match ds with | [] => .ok () env M | _ => .stuck) := by
  refine ⟨fun pins s σ H vs us Q I rv ⟨env, M, μ, ds, r, h, o⟩ => pgs_nil.run pins s σ H vs us Q I rv ?_⟩
  cases h with
  | nil => exact ⟨rfl, o σ H μ ⟨r, Ext.refl⟩⟩
  | cons _ _ => exact o.elim
theorem jgs_cons {t : Expr} {ts : List Expr} {ft : D → Env → Mem → Res Unit} {fts : List D → Env → Mem → Res Unit} (h1 : JG p X t ft) (h2 : JGs p X ts fts) (hs : (assignEach (t :: ts) X.env).map (·.2) = assign t X.env :: (assignEach ts X.env).map (·.2)) : JGs p X (t :: ts) (tksC ft fts) := by
  refine ⟨fun pins s σ H vs us Q I rv ⟨env, M, μ, ds, r, h, o⟩ => (pgs_cons h1 h2 hs).run pins s σ H vs us Q I rv ?_⟩
  cases h with
  | nil => exact o.elim
  | cons h t =>
    refine ⟨_, _, rfl, env, M, μ, _, r, h, (Out.bind o).imp fun _ env1 M1 o1 σ1 H1 μ1 g => ?_⟩
    exact ⟨env1, M1, μ1, _, g.rel, t.mono g.ext.fz g.ext.mu, (Out.shift g.ext o1).imp fun _ env2 M2 q σ2 H2 μ2 g2 => q σ2 H2 μ2 ⟨g2.rel, g.ext.trans g2.ext⟩⟩
theorem jg_tup {ts : List Expr} {k n : Nat} {fts : List D → Env → Mem → Res Unit} (hK : p.K = X.K) (hc : X.calm = true) (h : JGs p X ts fts) (hn : (assignEach ts X.env).length = n) (hst : (assignEach ts X.env).findIdx? (·.1) = none) : JG p X (.Tuple ts k pos) (tkT n fts) := by
  refine ⟨fun pins s σ H v u Q I rv ⟨env, M, μ, d, r, h1, o⟩ => ?_⟩
  cases h1 with
  | tup ht he =>
    change Out p σ H env μ (if _ then _ else _) _ at o
    split at o
    · rename_i hl
      exact (pg_tup hc h hn hst).run pins s σ H _ u Q I rv ⟨_, _, rfl, hK ▸ ht, by rw [← he.length]; simpa using hl, env, M, μ, _, r, he, o⟩
    · exact o.elim
  | fl ht he =>
    change Out p σ H env μ (if _ then _ else _) _ at o
    split at o
    · rename_i hl
      exact (pg_lst hc h hn hst).run pins s σ H _ u Q I rv ⟨_, _, rfl, hK ▸ ht.seq, by rw [← he.length]; simpa using hl, env, M, μ, _, r, he, o⟩
    · exact o.elim
  | _ => exact o.elim
end
end Iv

/-! Iv: calls of the program's defs. -/
namespace Iv
open PySem PySem.Spec PyProof.Rows L2

/-- what a def promises -/
def spG (p : Pm) (G : Gam) (f : Nat) : Sp := fun vs H Q E => ∃ as M μ, Rel p.w p.K (as.map some) M μ (vs.map some) H ∧
  match G f as M with
  | .stuck => False
  | .ok r _ M' => ∀ v H' μ', Rel p.w p.K [] M' μ' [] H' → RRep p.w p.K [] μ' [] H' r v → Ext (as.map some) μ (vs.map some) H [] μ' [] H' → (∀ (o : Ob) (a : Addr), r = .own o → v = .ref a → Owned (as.map some) (vs.map some) a ∨ H a = none) → (∀ i, r ≠ .lnd i) → Q v H'
  | .exc x _ M' => ∀ cls d H' μ', Rel p.w p.K [] M' μ' [] H' → p.xr x cls d H' → Ext (as.map some) μ (vs.map some) H [] μ' [] H' → E cls d H'

section
variable {w : World} {K : PySem.W.Frag} {env env1 : Env} {M M1 : Mem} {μ μ1 : List Addr} {σ : L2.St} {H H1 : Hp}
theorem toArgs_at : ∀ {rs : List R} {as : List SV}, toArgs env rs = some as → ∀ (i : Nat) (x : SV), as[i]? = some x → ∃ r, rs[i]? = some r ∧ r.arg env = some x
  | [], as, h, i, x, e => by simp [toArgs] at h; subst h; simp at e
  | r :: rs, as, h, i, x, e => by
    simp only [toArgs] at h
    split at h
    · rename_i d ds e1 e2
      cases h
      cases i with
      | zero => simp at e; subst e; exact ⟨r, rfl, e1⟩
      | succ i =>
        obtain ⟨r', q1, q2⟩ := toArgs_at e2 i x (by simpa using e)
        exact ⟨r', by simpa using q1, q2⟩
    · cases h
theorem toArgs_len : ∀ {rs : List R} {as : List SV}, toArgs env rs = some as → as.length = rs.length
  | [], as, h => by simp [toArgs] at h; subst h; rfl
  | r :: rs, as, h => by
    simp only [toArgs] at h
    split at h
    · rename_i d ds e1 e2
      cases h
      simp [toArgs_len e2]
    · cases h
theorem RReps.at : ∀ {rs : List R} {vs : List V}, RReps w K env μ σ H rs vs → ∀ (i : Nat) (r : R), rs[i]? = some r → ∃ v, vs[i]? = some v ∧ RRep w K env μ σ H r v
  | _, _, .nil, i, r, e => by simp at e
  | _, _, .cons h t, 0, r, e => by simp at e; subst e; exact ⟨_, rfl, h⟩
  | _, _, .cons h t, i + 1, r, e => by
    obtain ⟨v, h1, h2⟩ := RReps.at t i r (by simpa using e)
    exact ⟨v, by simpa using h1, h2⟩
theorem mem_newAs : ∀ {rs : List R} {vs : List V} {i : Nat} {o : Ob} {a : Addr}, rs[i]? = some (.own o) → vs[i]? = some (.ref a) → a ∈ newAs rs vs
  | r :: rs, v :: vs, 0, o, a, e1, e2 => by
    simp at e1 e2; subst e1 e2
    exact List.mem_append_left _ (by simp [newA])
  | r :: rs, v :: vs, i + 1, o, a, e1, e2 => List.mem_append_right _ (mem_newAs (i := i) (o := o) (by simpa using e1) (by simpa using e2))
  | [], _, _, _, _, e1, _ => by simp at e1
  | _ :: _, [], _, _, _, _, e2 => by simp at e2
theorem newAs_inj : ∀ {rs : List R} {vs : List V} {i i' : Nat} {o o' : Ob} {a : Addr}, (newAs rs vs).Nodup → rs[i]? = some (.own o) → vs[i]? = some (.ref a) → rs[i']? = some (.own o') → vs[i']? = some (.ref a) → i = i'
  | r :: rs, v :: vs, 0, 0, o, o', a, nd, e1, e2, e3, e4 => rfl
  | r :: rs, v :: vs, 0, i' + 1, o, o', a, nd, e1, e2, e3, e4 => by
    obtain ⟨_, _, n3⟩ := List.nodup_append.mp nd
    simp at e1 e2; subst e1 e2
    exact absurd rfl (n3 a (by simp [newA]) a (mem_newAs (i := i') (o := o') (by simpa using e3) (by simpa using e4)))
  | r :: rs, v :: vs, i + 1, 0, o, o', a, nd, e1, e2, e3, e4 => by
    obtain ⟨_, _, n3⟩ := List.nodup_append.mp nd
    simp at e3 e4; subst e3 e4
    exact absurd rfl (n3 a (by simp [newA]) a (mem_newAs (i := i) (o := o) (by simpa using e1) (by simpa using e2)))
  | r :: rs, v :: vs, i + 1, i' + 1, o, o', a, nd, e1, e2, e3, e4 => by
    obtain ⟨_, n2, _⟩ := List.nodup_append.mp nd
    rw [newAs_inj (i := i) (i' := i') (o := o) (o' := o') n2 (by simpa using e1) (by simpa using e2) (by simpa using e3) (by simpa using e4)]
  | [], _, _, _, _, _, _, _, e1, _, _, _ => by simp at e1
  | _ :: _, [], _, _, _, _, _, _, _, e2, _, _ => by simp at e2
theorem getSome {α : Type} {l : List α} {i : Nat} {x : α} (h : (l.map some)[i]? = some (some x)) : l[i]? = some x := by
  rw [List.getElem?_map] at h
  cases e : l[i]? with
  | none => rw [e] at h; cases h
  | some y => rw [e] at h; cases h; rfl
theorem someGet {α : Type} {l : List α} {i : Nat} {x : α} (h : l[i]? = some x) : (l.map some)[i]? = some (some x) := by
  rw [List.getElem?_map, h]; rfl
/-- what the callee owns was made for it -/
theorem args_owned {rs : List R} {vs : List V} {as : List SV} (ea : toArgs env rs = some as) {b : Addr} (h : Owned (as.map some) (vs.map some) b) : b ∈ newAs rs vs := by
  obtain ⟨i, o, e1, e2⟩ := h
  obtain ⟨r, h1, h2⟩ := toArgs_at ea i _ (getSome e1)
  cases r with
  | val d => simp [R.arg] at h2
  | own o' => exact mem_newAs h1 (getSome e2)
  | lnd j =>
    simp only [R.arg] at h2
    split at h2 <;> simp at h2
theorem Rel.args {rs : List R} {vs : List V} {as : List SV} (r : Rel w K env M μ σ H) (h : RReps w K env μ σ H rs vs) (nd : (newAs rs vs).Nodup) (ea : toArgs env rs = some as) : Rel w K (as.map some) M μ (vs.map some) H := by
  refine ⟨by rw [List.length_map, List.length_map, toArgs_len ea, h.length], fun i d e => ?_, fun i o e => ?_, fun i o e => ?_, r.mem, r.mlen, r.nd, fun i i' o o' a e1 e2 e3 e4 => ?_⟩
  · obtain ⟨x, h1, h2⟩ := toArgs_at ea i _ (getSome e)
    obtain ⟨v, h3, h4⟩ := h.at i x h1
    cases x with
    | val d' => simp [R.arg] at h2; subst h2; exact ⟨v, someGet h3, h4⟩
    | own o' => simp [R.arg] at h2
    | lnd j =>
      simp only [R.arg] at h2
      split at h2 <;> simp at h2
  · obtain ⟨x, h1, h2⟩ := toArgs_at ea i _ (getSome e)
    obtain ⟨v, h3, h4⟩ := h.at i x h1
    cases x with
    | val d' => simp [R.arg] at h2
    | own o' =>
      simp [R.arg] at h2; subst h2
      obtain ⟨a, rfl, q1, q2, q3⟩ := h4
      exact ⟨a, someGet h3, q1, q2⟩
    | lnd j =>
      simp only [R.arg] at h2
      split at h2 <;> simp at h2
  · obtain ⟨x, h1, h2⟩ := toArgs_at ea i _ (getSome e)
    obtain ⟨v, h3, h4⟩ := h.at i x h1
    cases x with
    | val d' => simp [R.arg] at h2
    | own o' => simp [R.arg] at h2
    | lnd j =>
      obtain ⟨q1, _⟩ := h4
      have fin : ∀ a, v = .ref a → Held env σ a → ¬ Owned (as.map some) (vs.map some) a := fun a _ hh z => (h.newOk a (args_owned ea z)).2.1 hh
      simp only [R.arg] at h2
      split at h2
      · rename_i o' eo
        simp at h2; subst h2
        obtain ⟨a, k1, k2, k3⟩ := r.own j o' eo
        rw [q1] at k1; cases k1
        exact ⟨a, someGet h3, k2, k3, fin a rfl (.inl ⟨j, o', eo, q1⟩)⟩
      · rename_i o' eo
        simp at h2; subst h2
        obtain ⟨a, k1, k2, k3, k4⟩ := r.lck j o' eo
        rw [q1] at k1; cases k1
        exact ⟨a, someGet h3, k2, k3, fin a rfl (.inr ⟨j, o', eo, q1⟩)⟩
      · simp at h2
  · obtain ⟨x, h1, h2⟩ := toArgs_at ea i _ (getSome e1)
    obtain ⟨x', h1', h2'⟩ := toArgs_at ea i' _ (getSome e3)
    have key : ∀ {x : R} {o : Ob}, x.arg env = some (.own o) → x = .own o := fun {x o} q => by
      cases x with
      | val d' => simp [R.arg] at q
      | own o' => simp [R.arg] at q; rw [q]
      | lnd j =>
        simp only [R.arg] at q
        split at q <;> simp at q
    rw [key h2] at h1; rw [key h2'] at h1'
    exact newAs_inj nd h1 (getSome e2) h1' (getSome e4)
/-- behind the call -/
theorem Rel.ret {rs : List R} {vs : List V} {as : List SV} {M' : Mem} {μ' : List Addr} {H' : Hp} (r : Rel w K env M μ σ H) (h : RReps w K env μ σ H rs vs) (ea : toArgs env rs = some as) (rc : Rel w K [] M' μ' [] H') (x : Ext (as.map some) μ (vs.map some) H [] μ' [] H') : Rel w K env M' μ' σ H' := by
  have at' : ∀ {o : Ob} {a : Addr}, ObAt w K H μ o a → a ∉ μ → Held env σ a → ObAt w K H' μ' o a ∧ a ∉ μ' := fun {o a} ho hm hh => by
    obtain ⟨u, e, _⟩ := ho.some
    refine ⟨ho.mono x.fz x.mu ?_, x.notMu e hm⟩
    rw [e]
    exact x.keep a u e hm fun z => (h.newOk a (args_owned ea z)).2.1 hh
  refine ⟨r.len, fun i d e => ?_, fun i o e => ?_, fun i o e => ?_, rc.mem, rc.mlen, rc.nd, r.sep⟩
  · obtain ⟨v, a, b⟩ := r.val i d e
    exact ⟨v, a, b.mono x.fz x.mu⟩
  · obtain ⟨a, b, c, d⟩ := r.own i o e
    obtain ⟨q1, q2⟩ := at' c d (.inl ⟨i, o, e, b⟩)
    exact ⟨a, b, q1, q2⟩
  · obtain ⟨a, b, c, d, f⟩ := r.lck i o e
    obtain ⟨q1, q2⟩ := at' c d (.inr ⟨i, o, e, b⟩)
    exact ⟨a, b, q1, q2, f⟩
theorem Ext.ret {rs : List R} {vs : List V} {as : List SV} {env0 : Env} {μ0 : List Addr} {H0 : Hp} {μ' : List Addr} {H' : Hp} (g : Ext env0 μ0 σ H0 env μ σ H) (hn : ∀ a ∈ newAs rs vs, H0 a = none) (ea : toArgs env rs = some as) (x : Ext (as.map some) μ (vs.map some) H [] μ' [] H') : Ext env0 μ0 σ H0 env μ' σ H' where
  pre := by
    obtain ⟨ν, e1, f1⟩ := g.pre
    obtain ⟨ν', e2, f2⟩ := x.pre
    refine ⟨ν ++ ν', by rw [e2, e1, List.append_assoc], fun a ha => ?_⟩
    rcases List.mem_append.mp ha with z | z
    · exact f1 a z
    · exact g.dom a (f2 a z)
  keep := fun b o h n1 n2 => x.keep b o (g.keep b o h n1 n2) (g.notMu h n1) fun z => by
    rw [hn b (args_owned ea z)] at h; cases h
  owned := g.owned
  lcks := g.lcks
  fz := g.fz.trans x.fz
  dom := fun b h => g.dom b (x.dom b h)
end

section
variable {p : Pm} {X : Cx} {σ : L2.St} {H H1 : Hp} {env env1 : Env} {M M1 : Mem} {μ μ1 : List Addr} {pins : List (Addr × Obj)} {s : Shared} {e : Expr} {es : List Expr} {fs : Evs} {pos pp : Pos} {CX : CXT} {k n : Nat} {f : Addr} {fd : FuncData} {ps : List PySem.Str} {G : Gam} {x : PySem.Str}
theorem run_fnW {Q : VK} {us : List Value} {vs : List V} {sp : Sp} {E : XK} (F : FnOk X.prog X.w X.K X.mg X.base CX k f fd ps sp) (hr : Room k X.A) (hb : Binds X.K fd ps []) (hx : PassesAt CX X σ E) (I : Inv X pins σ H s) (r : Vals vs us) (h : sp vs H Q E) :
    wpAny (model X.prog X.w) X.A (PySem.call (.ref f) us) (EP X pins σ Q) X.xe s := by
  have hl : (us ++ []).length = ps.length := by rw [List.append_nil, ← r.length]; exact F.len _ _ _ _ h
  have hb' := hb s us I.kIn hl
  rw [List.append_nil] at hb'
  refine wpAny_call (codeAny_mono (F.run X.A X.stack s H ⟨us, []⟩ us vs Q E hr I.env0 hb' r h) fun r s' hq => ?_)
  cases r with
  | error e => exact hx pins H s e s' I hq
  | ok fl =>
    cases fl with
    | ret u => exact I.after hq
    | next => exact False.elim hq
    | brk => exact False.elim hq
    | cont => exact False.elim hq
/-- the def called -/
theorem call_go {Q : VK} {us : List Value} {vs : List V} {rs : List R} (F : FnOk X.prog X.w X.K X.mg X.base CX k f fd ps (spG p G n)) (hr : Room k X.A) (hb : Binds X.K fd ps []) (hx : ∀ σ, PassesAt CX X σ (fun c d H => p.W c d σ H)) (I : Inv X pins σ H1 s) (rv : Vals vs us) (g : GotL p σ H env μ rs env1 M1 vs H1 μ1)
    (o : Out p σ H env μ (match toArgs env1 rs with | some as => (match G n as M1 with | .ok r _ M' => .ok r env1 M' | .exc x _ M' => .exc x env1 M' | .stuck => .stuck) | none => .stuck) (Post p σ H env μ Q)) : wpAny (model X.prog X.w) X.A (PySem.call (.ref f) us) (EP X pins σ Q) X.xe s := by
  cases ea : toArgs env1 rs with
  | none => rw [ea] at o; exact o.elim
  | some as =>
    rw [ea] at o
    refine run_fnW F hr hb (hx σ) I rv ⟨as, M1, μ1, g.rel.args g.rep g.nd ea, ?_⟩
    revert o
    change Out p σ H env μ (match G n as M1 with | .ok r _ M' => .ok r env1 M' | .exc x _ M' => .exc x env1 M' | .stuck => .stuck) (Post p σ H env μ Q) → _
    cases G n as M1 with
    | stuck => exact fun o => o
    | ok r _ M' =>
      intro o v H' μ' rc rep x fr nl
      have ext := Ext.ret g.ext g.new ea x
      have frs : Fresh H r v := by
        cases r with
        | val d => trivial
        | lnd i => trivial
        | own ob =>
          intro a e
          rcases fr ob a rfl e with z | z
          · exact g.new a (args_owned ea z)
          · exact g.ext.dom a z
      have rel := g.rel.ret g.rep ea rc x
      refine o v H' μ' ⟨rel, g.sk, ?_, ext, frs⟩
      cases r with
      | val d => exact rep
      | lnd i => exact absurd rfl (nl i)
      | own ob =>
        obtain ⟨a, rfl, h1, h2, _⟩ := rep
        refine ⟨a, rfl, h1, h2, fun z => ?_⟩
        rcases fr ob a rfl rfl with y | y
        · exact (g.rep.newOk a (args_owned ea y)).2.1 z
        · exact (g.rel.new y).2 z
    | exc x _ M' =>
      intro o cls d H' μ' rc hxr x
      exact o cls d σ H' μ' (g.rel.ret g.rep ea rc x) hxr (Ext.ret g.ext g.new ea x)
theorem je_call (F : FnOk X.prog X.w X.K X.mg X.base CX k f fd ps (spG p G n)) (hr : Room k X.A) (hg : Gl X x) (hm : X.mg x = some (.ref f)) (hk : PySem.W.keepIn X.K (.ref f) = true) (hb : Binds X.K fd ps []) (hx : ∀ σ, PassesAt CX X σ (fun c d H => p.W c d σ H))
    (ha : JA p X (e :: es) fs) (hdb : (x == ("__debug__" : PySem.Str)) = false) (he : starEach (e :: es) X.env = (false, eval e X.env) :: starEach es X.env) (hpl : (backTo pos (starEach es X.env)).any (·.1) = false) : JE p X (.Call (.Name x pp) (e :: es) [] pos) (callE G n fs) := by
  refine JE.of fun pins s σ H Q env M μ I r o => ?_
  refine wpAny_Call_Name_kw (ld_glob I hg hm ?_ hdb)
  exact PySem.W.callWith_K (h₀ := X.base) I.ok.mod.kin hk (thn (JA.go ha I r (Out.bind o)) fun us s1 ⟨vs, rs, env1, M1, H1, μ1, I1, rv, g, o1⟩ => ⟨I1.kIn, call_go F hr hb hx I1 rv g o1⟩) he hpl
theorem je_call0 (F : FnOk X.prog X.w X.K X.mg X.base CX k f fd ps (spG p G n)) (hr : Room k X.A) (hg : Gl X x) (hm : X.mg x = some (.ref f)) (hk : PySem.W.keepIn X.K (.ref f) = true) (hb : Binds X.K fd ps []) (hx : ∀ σ, PassesAt CX X σ (fun c d H => p.W c d σ H))
    (hdb : (x == ("__debug__" : PySem.Str)) = false) : JE p X (.Call (.Name x pp) [] [] pos) (callE G n nilE) := by
  refine JE.of fun pins s σ H Q env M μ I r o => ?_
  refine wpAny_Call_Name_kw (ld_glob I hg hm ?_ hdb)
  exact PySem.W.callWith_K0 I.kIn hk (call_go (us := []) F hr hb hx I .nil ⟨r, SK.refl _, .nil, Ext.refl, (fun _ h => nomatch h), List.nodup_nil⟩ o)
end
end Iv

/-! Iv: built-ins. -/
namespace Iv
open PySem PySem.Spec PyProof.Rows L2

inductive VAts (w : World) (K : PySem.W.Frag) (H : Hp) (μ : List Addr) : List Vw → List V → Prop
  | nil : VAts w K H μ [] []
  | cons {x : Vw} {v : V} {xs : List Vw} {vs : List V} : VAt w K H μ x v → VAts w K H μ xs vs → VAts w K H μ (x :: xs) (v :: vs)
/-- a built-in that makes objects at the most -/
def OpB (p : Pm) (X : Cx) (fv : Value) (g : List Vw → Option R) : Prop :=
  ∀ (pins : List (Addr × Obj)) (s : Shared) (σ : L2.St) (H : Hp) (env : Env) (M : Mem) (μ : List Addr) (vvs : List Vw) (vs : List V) (us : List Value) (r : R) (Q : VK), Inv X pins σ H s → Rel p.w p.K env M μ σ H → VAts p.w p.K H μ vvs vs →
    Vals vs us → g vvs = some r → (∀ z H', Same H H' → RRep p.w p.K env μ σ H' r z → Fresh H r z → Q z H') → wpAny (model X.prog X.w) X.A (PySem.call fv us) (EP X pins σ Q) X.xe s
section
variable {p : Pm} {X : Cx} {σ : L2.St} {H H1 : Hp} {env env1 : Env} {M M1 : Mem} {μ μ1 : List Addr} {pins : List (Addr × Obj)} {s : Shared} {e : Expr} {es : List Expr} {fs : Evs} {pos pp : Pos} {x : PySem.Str}
theorem RReps.views (rel : Rel p.w p.K env M μ σ H) {rs : List R} {vs : List V} (h : RReps p.w p.K env μ σ H rs vs) : ∀ {vvs : List Vw}, vws env M rs = some vvs → VAts p.w p.K H μ vvs vs := by
  induction h with
  | nil => intro vvs e; simp [vws] at e; subst e; exact .nil
  | cons h1 _ ih =>
    intro vvs e
    simp only [vws] at e
    split at e
    · rename_i v vs' e1 e2
      cases e
      exact .cons (h1.view rel e1) (ih e2)
    · cases e
/-- objects made behind values in a row -/
theorem GotL.made {rs : List R} {vs : List V} {r : R} {z : V} {H2 : Hp} (g : GotL p σ H env μ rs env1 M1 vs H1 μ1) (sm : Same H1 H2) (h : RRep p.w p.K env1 μ1 σ H2 r z) (f : Fresh H1 r z) : Got p σ H env μ r env1 M1 z H2 μ1 :=
  ⟨g.rel.grow sm, g.sk, h, g.ext.trans (Ext.grow sm), Fresh.back (env := env) (σ := σ) (env' := env) (μ' := μ) g.ext f⟩
theorem blt_go {fv : Value} {f : Blt} {Q : VK} {us : List Value} {vs : List V} {rs : List R} (hf : OpB p X fv (bltO f)) (I : Inv X pins σ H1 s) (rv : Vals vs us) (g : GotL p σ H env μ rs env1 M1 vs H1 μ1)
    (o : Out p σ H env μ (match vws env1 M1 rs with | some vs => optE (bltO f vs) env1 M1 | none => .stuck) (Post p σ H env μ Q)) : wpAny (model X.prog X.w) X.A (PySem.call fv us) (EP X pins σ Q) X.xe s := by
  cases ev : vws env1 M1 rs with
  | none => rw [ev] at o; exact o.elim
  | some vvs =>
    rw [ev] at o
    obtain ⟨r, e1, q⟩ := optE_out o
    exact hf pins s σ H1 env1 M1 μ1 vvs vs us r Q I g.rel (g.rep.views g.rel ev) rv e1 fun z H' sm rz fz => q z H' μ1 (g.made sm rz fz)
theorem je_bltB {id : String} {f : Blt} (hf : OpB p X (.builtin id) (bltO f)) (hg : Gl X x) (hm : X.mg x = none) (hv : bootBuiltins x = some (.builtin id)) (ha : JA p X (e :: es) fs) (hn : x ≠ "__name__") (hdb : (x == ("__debug__" : PySem.Str)) = false)
    (he : starEach (e :: es) X.env = (false, eval e X.env) :: starEach es X.env) (hpl : (backTo pos (starEach es X.env)).any (·.1) = false) : JE p X (.Call (.Name x pp) (e :: es) [] pos) (bltE f fs) := by
  refine JE.of fun pins s σ H Q env M μ I r o => ?_
  refine wpAny_Call_Name_kw (ld_blt I hg hm hv ?_ hn hdb)
  exact PyProof.Rows.callWith_builtin1 (thn (JA.go ha I r (Out.bind o)) fun us s1 ⟨vs, rs, env1, M1, H1, μ1, I1, rv, g, o1⟩ => blt_go hf I1 rv g o1) he hpl
theorem je_bltT {T : String} {f : Blt} (hf : OpB p X (.type T) (bltO f)) (hg : Gl X x) (hm : X.mg x = none) (hv : bootBuiltins x = some (.type T)) (ha : JA p X (e :: es) fs) (hn : x ≠ "__name__") (hdb : (x == ("__debug__" : PySem.Str)) = false)
    (he : starEach (e :: es) X.env = (false, eval e X.env) :: starEach es X.env) (hpl : (backTo pos (starEach es X.env)).any (·.1) = false) : JE p X (.Call (.Name x pp) (e :: es) [] pos) (bltE f fs) := by
  refine JE.of fun pins s σ H Q env M μ I r o => ?_
  refine wpAny_Call_Name_kw (ld_blt I hg hm hv ?_ hn hdb)
  exact PyProof.Rows.callWith_type1 (thn (JA.go ha I r (Out.bind o)) fun us s1 ⟨vs, rs, env1, M1, H1, μ1, I1, rv, g, o1⟩ => blt_go hf I1 rv g o1) he hpl
theorem VAts.one {v : Vw} {vs : List V} (h : VAts p.w p.K H μ [v] vs) : ∃ x, vs = [x] ∧ VAt p.w p.K H μ v x := by cases h with | cons h t => cases t; exact ⟨_, rfl, h⟩
theorem VAts.two {v v' : Vw} {vs : List V} (h : VAts p.w p.K H μ [v, v'] vs) : ∃ x y, vs = [x, y] ∧ VAt p.w p.K H μ v x ∧ VAt p.w p.K H μ v' y := by cases h with | cons h t => cases t with | cons h2 t => cases t; exact ⟨_, _, rfl, h, h2⟩
theorem same_refl (H : Hp) : Same H H := fun _ _ h => h
theorem opB_len (hK : p.K = X.K) : OpB p X (.builtin "len") lenB := by
  intro pins s σ H env M μ vvs vs us r Q I rel hv rv e q
  unfold lenB at e
  split at e
  · cases e
    obtain ⟨x, rfl, h⟩ := hv.one
    obtain ⟨h, _⟩ := h
    cases h with
    | tup ht he => exact call_len_seq pins s σ H _ us Q I rv ⟨_, _, rfl, .inr (hK ▸ ht), by rw [← he.length]; exact q _ H (same_refl H) (.int _) trivial⟩
  · cases e
    obtain ⟨x, rfl, h⟩ := hv.one
    obtain ⟨a, ws, rfl, hr, he⟩ := h
    exact call_len_seq pins s σ H _ us Q I rv ⟨_, _, rfl, .inl (hK ▸ hr), by rw [← he.length]; exact q _ H (same_refl H) (.int _) trivial⟩
  · obtain ⟨x, rfl, h⟩ := hv.one
    obtain ⟨h, _⟩ := h
    cases h
    split at e
    · rename_i hz; cases e
      exact call_len_str pins s σ H _ us Q I rv ⟨_, rfl, by simpa [lineOk] using hz, q _ H (same_refl H) (.int _) trivial⟩
    · cases e
  · cases e
theorem Encs.ints {w : World} {K : PySem.W.Frag} : ∀ {xs : List D} {vs : List V} {ns : List Int}, Encs w K H μ xs vs → asInts xs = some ns → vs = ns.map V.int
  | [], _, ns, .nil, e => by simp [asInts] at e; subst e; rfl
  | d :: xs, _, ns, .cons h t, e => by
    cases h with
    | int i =>
      simp only [asInts] at e
      obtain ⟨l, e1, rfl⟩ := Option.map_eq_some_iff.mp e
      rw [Encs.ints t e1]; rfl
    | _ => simp [asInts] at e
theorem Encs.bools {w : World} {K : PySem.W.Frag} : ∀ {xs : List D} {vs : List V} {ns : List Bool}, Encs w K H μ xs vs → asBools xs = some ns → vs = ns.map V.bl
  | [], _, ns, .nil, e => by simp [asBools] at e; subst e; rfl
  | d :: xs, _, ns, .cons h t, e => by
    cases h with
    | bl i =>
      simp only [asBools] at e
      obtain ⟨l, e1, rfl⟩ := Option.map_eq_some_iff.mp e
      rw [Encs.bools t e1]; rfl
    | _ => simp [asBools] at e
theorem Encs.strs {w : World} {K : PySem.W.Frag} : ∀ {xs : List D} {vs : List V} {ns : List PySem.Str}, Encs w K H μ xs vs → asStrs xs = some ns → vs = ns.map V.str
  | [], _, ns, .nil, e => by simp [asStrs] at e; subst e; rfl
  | d :: xs, _, ns, .cons h t, e => by
    cases h with
    | str i =>
      simp only [asStrs] at e
      obtain ⟨l, e1, rfl⟩ := Option.map_eq_some_iff.mp e
      rw [Encs.strs t e1]; rfl
    | _ => simp [asStrs] at e
theorem opB_sum (hK : p.K = X.K) (hc : X.calm = true) : OpB p X (.builtin "sum") sumB := by
  intro pins s σ H env M μ vvs vs us r Q I rel hv rv e q
  unfold sumB at e
  split at e
  · obtain ⟨ns, e1, rfl⟩ := Option.map_eq_some_iff.mp e
    obtain ⟨x, rfl, h⟩ := hv.one
    obtain ⟨a, ws, rfl, hr, he⟩ := h
    have := he.ints e1; subst this
    exact cr_sum hc pins s σ H _ us Q I rv ⟨_, ns, rfl, hK ▸ hr, q _ H (same_refl H) (.int _) trivial⟩
  · cases e
theorem opB_all (hK : p.K = X.K) (hc : X.calm = true) : OpB p X (.builtin "all") allB := by
  intro pins s σ H env M μ vvs vs us r Q I rel hv rv e q
  unfold allB at e
  split at e
  · obtain ⟨ns, e1, rfl⟩ := Option.map_eq_some_iff.mp e
    obtain ⟨x, rfl, h⟩ := hv.one
    obtain ⟨a, ws, rfl, hr, he⟩ := h
    have := he.bools e1; subst this
    exact cr_all hc pins s σ H _ us Q I rv ⟨_, ns, rfl, hK ▸ hr, q _ H (same_refl H) (.bl _) trivial⟩
  · cases e
theorem opB_abs : OpB p X (.builtin "abs") absB := by
  intro pins s σ H env M μ vvs vs us r Q I rel hv rv e q
  unfold absB at e
  split at e
  · cases e
    obtain ⟨x, rfl, h, _⟩ := hv.one
    cases h
    exact call_abs pins s σ H _ us Q I rv ⟨_, rfl, q _ H (same_refl H) (.int _) trivial⟩
  · cases e
theorem opB_int : OpB p X (.type "int") intB := by
  intro pins s σ H env M μ vvs vs us r Q I rel hv rv e q
  unfold intB at e
  split at e
  · cases e
    obtain ⟨x, rfl, h, _⟩ := hv.one
    cases h
    exact call_int1 pins s σ H _ us Q I rv (.inl ⟨_, rfl, q _ H (same_refl H) (.int _) trivial⟩)
  · cases e
    obtain ⟨x, rfl, h, _⟩ := hv.one
    cases h
    exact call_int1 pins s σ H _ us Q I rv (.inr ⟨_, rfl, q _ H (same_refl H) (.int _) trivial⟩)
  · cases e
theorem opB_str : OpB p X (.type "str") strB := by
  intro pins s σ H env M μ vvs vs us r Q I rel hv rv e q
  unfold strB at e
  split at e
  · obtain ⟨x, rfl, h, _⟩ := hv.one
    cases h
    split at e
    · rename_i hz
      cases e
      exact call_str_int pins s σ H _ us Q I rv ⟨_, rfl, by simpa using hz, q _ H (same_refl H) (.str _) trivial⟩
    · cases e
  · cases e
theorem opB_min (hc : X.calm = true) : OpB p X (.builtin "min") minB := by
  intro pins s σ H env M μ vvs vs us r Q I rel hv rv e q
  unfold minB at e
  split at e
  · cases e
    obtain ⟨x, y, rfl, ⟨h1, _⟩, ⟨h2, _⟩⟩ := hv.two
    cases h1; cases h2
    exact call_min2 hc pins s σ H _ us Q I rv ⟨_, _, rfl, q _ H (same_refl H) (.int _) trivial⟩
  · cases e
theorem opB_max (hc : X.calm = true) : OpB p X (.builtin "max") maxB := by
  intro pins s σ H env M μ vvs vs us r Q I rel hv rv e q
  unfold maxB at e
  split at e
  · cases e
    obtain ⟨x, y, rfl, ⟨h1, _⟩, ⟨h2, _⟩⟩ := hv.two
    cases h1; cases h2
    exact call_max2 hc pins s σ H _ us Q I rv ⟨_, _, rfl, q _ H (same_refl H) (.int _) trivial⟩
  · cases e
theorem opB_list (hK : p.K = X.K) : OpB p X (.type "list") listB := by
  intro pins s σ H env M μ vvs vs us r Q I rel hv rv e q
  have new : ∀ {ws : List V} {xs : List D}, Encs p.w p.K H μ xs ws → r = .own (.lst xs) → ∀ l, H l = none → Q (.ref l) (upd H l (.lst ws)) := fun {ws xs} he er l hl => by
    subst er
    have sm := same_new (o := .lst ws) hl
    obtain ⟨n1, n2⟩ := rel.new hl
    exact q _ _ sm ⟨_, rfl, ⟨_, upd_same, he.mono (FzE.of_same sm) fun _ _ z => z⟩, n1, n2⟩ fun b e => by cases e; exact hl
  unfold listB at e
  split at e
  · cases e
    obtain ⟨x, rfl, h, _⟩ := hv.one
    cases h with
    | tup ht he => exact call_list_of pins s σ H _ us Q I rv ⟨_, _, rfl, .inr (hK ▸ ht), new he rfl⟩
  · cases e
    obtain ⟨x, rfl, h⟩ := hv.one
    obtain ⟨a, ws, rfl, hr, he⟩ := h
    exact call_list_of pins s σ H _ us Q I rv ⟨_, _, rfl, .inl (hK ▸ hr), new he rfl⟩
  · cases e
theorem opB_tuple (hK : p.K = X.K) : OpB p X (.type "tuple") tupleB := by
  intro pins s σ H env M μ vvs vs us r Q I rel hv rv e q
  unfold tupleB at e
  split at e
  · cases e
    obtain ⟨x, rfl, h, _⟩ := hv.one
    cases h with
    | tup ht he => exact call_tuple_of pins s σ H _ us Q I rv ⟨_, _, rfl, .inr ⟨hK ▸ ht, q _ H (same_refl H) (.tup ht he) trivial⟩⟩
  · cases e
    obtain ⟨x, rfl, h⟩ := hv.one
    obtain ⟨a, ws, rfl, hr, he⟩ := h
    refine call_tuple_of pins s σ H _ us Q I rv ⟨_, _, rfl, .inl ⟨hK ▸ hr, fun l hl => ?_⟩⟩
    have sm := same_new (o := .tup ws) hl
    exact q _ _ sm (.tup (.inl (.inl upd_same)) (he.mono (FzE.of_same sm) fun _ _ z => z)) trivial
  · cases e
theorem deref_nil {d e : D} (h : D.deref [] d = some e) : D.deref M d = some e := by
  cases d with
  | ref j => simp [D.deref] at h
  | _ => exact h
theorem derefs_nil : ∀ {ds es : List D}, ds.mapM (D.deref []) = some es → ds.mapM (D.deref M) = some es
  | [], es, h => by simpa using h
  | d :: ds, es, h => by
    simp only [List.mapM_cons, Option.pure_def, Option.bind_eq_bind, Option.bind_eq_some_iff, Option.some.injEq] at h ⊢
    obtain ⟨e, q1, es', q2, rfl⟩ := h
    exact ⟨e, deref_nil q1, es', derefs_nil q2, rfl⟩
theorem cmpD_nil {v : Vw} {d : D} (h : v.cmpD [] = some d) : v.cmpD M = some d := by
  cases v with
  | dat d' => cases d' <;> exact h
  | obj o =>
    cases o with
    | lst xs =>
      obtain ⟨es, q1, rfl⟩ := Option.map_eq_some_iff.mp (show (xs.mapM (D.deref [])).map .fl = some d from h)
      show (xs.mapM (D.deref M)).map D.fl = _
      rw [derefs_nil q1]; rfl
    | _ => cases h
/-- repr: only where no repr is under way -/
theorem opB_repr (hK : p.K = X.K) (hg : X.A.guards = some []) (hu : X.A.units + 80 < cLine) : OpB p X (.builtin "repr") reprB := by
  intro pins s σ H env M μ vvs vs us r Q I rel hv rv e q
  unfold reprB at e
  split at e
  · rename_i v
    obtain ⟨x, rfl, h⟩ := hv.one
    obtain ⟨u, rfl, ru⟩ := rv.one
    cases e1 : v.cmpD [] with
    | none => rw [e1] at e; cases e
    | some d =>
      rw [e1] at e
      simp only at e
      split at e
      · rename_i hz
        cases e
        simp only [Bool.and_eq_true] at hz
        obtain ⟨hs, hz⟩ := hz
        have hz : (D.toP d).shown.length + 64 ≤ sizeLine := by simpa [lineOk] using hz
        have heap : ∀ (a : Addr), x = .ref a → Dp p.K H x (D.toP d) → D.pureN 61 d = true → wpAny (model X.prog X.w) X.A (PySem.call (.builtin "repr") [u]) (EP X pins σ Q) X.xe s := fun a ex hd hp => by
          obtain ⟨as, rd⟩ := Dp.reads I _ x u (hK ▸ hd) ru
          subst ex
          have ru : u = .ref a := ru
          subst ru
          obtain ⟨h1, h2⟩ := toP_ok 61 d hp
          exact PySem.repr_of_reads' rd hs (PyData.noDict_hsm (PyData.hasDict_of_canLay _ h1)) hg (by omega) (fun _ _ e => e) (fun h' tk t' hk => ⟨.str _, H, I.kept hk, ⟨_, rfl⟩, q _ H (same_refl H) (.str _) trivial⟩) (by omega)
        obtain ⟨hd, hp⟩ := VAt.cmp rel h (cmpD_nil (M := M) e1)
        have done : ∀ (y : PySem.Str) (t' : Nat), y = (D.toP d).shown → EP X pins σ Q (.str y s.toks) { s with toks := t' } := fun y t' ey => by
          subst ey
          exact ⟨.str _, H, I.tok t', ⟨_, rfl⟩, q _ H (same_refl H) (.str _) trivial⟩
        unfold Vw.cmpD at e1
        split at e1
        · obtain ⟨h, _⟩ := h
          cases h with
          | tup ht he => exact heap _ rfl hd hp
        · rename_i dd nt
          split at e1
          · cases e1
            obtain ⟨h, hx⟩ := h
            cases h with
            | non => have ru : u = .none := ru; subst ru; exact PySem.P.repr_of_none (done _ _ rfl)
            | bl b => have ru : u = .bool b := ru; subst ru; exact PySem.P.repr_of_bool (done _ _ rfl)
            | int i =>
              obtain ⟨t, rfl⟩ := ru
              exact PySem.P.repr_of_int (by simpa [D.toP, PyData.showable] using hs) (done _ _ rfl)
            | str z =>
              obtain ⟨t, rfl⟩ := ru
              exact PySem.P.repr_of_str (done _ _ rfl) (show (D.toP (.str z)).shown.length ≤ sizeLine by omega)
            | tup ht he => exact absurd rfl (nt _)
            | fl _ _ => exact hx.elim
            | fd _ _ _ _ _ _ => exact hx.elim
            | ref _ => exact hx.elim
          · cases e1
        · obtain ⟨a, vs, rfl, h1, h2⟩ := h
          exact heap a rfl hd hp
        · cases e1
      · cases e
  · cases e

/-! ### isinstance -/
theorem je_isi {t : Ty} {fe : Ev} {tn : PySem.Str} {p2 : Pos} {n : String} (hK : p.K = X.K) (ht : t.name = n) (hnc : ∀ c, t ≠ .cls c) (hg : Gl X "isinstance") (hm : X.mg "isinstance" = none) (hv : bootBuiltins "isinstance" = some (.builtin "isinstance")) (hg2 : Gl X tn) (hm2 : X.mg tn = none) (hv2 : bootBuiltins tn = some (.type n)) (hn2 : tn ≠ "__name__") (hd2 : (tn == ("__debug__" : PySem.Str)) = false)
    (he : JE p X e fe) (hs : starEach [e, .Name tn p2] X.env = [(false, eval e X.env), (false, eval (.Name tn p2) X.env)]) (hs2 : starEach [.Name tn p2] X.env = [(false, eval (.Name tn p2) X.env)]) (hpl : (backTo pos (starEach [.Name tn p2] X.env)).any (·.1) = false) : JE p X (.Call (.Name "isinstance" pp) [e, .Name tn p2] [] pos) (bltE (.isi t) (consE fe nilE)) := by
  refine JE.of fun pins s σ H Q env M μ I r o => ?_
  have o := out1 (Out.bind o)
  have pa1 : PA X [.Name tn p2] _ := pa_cons (pe_bltn (pos := p2) hg2 hm2 hv2 (v := .ty n) rfl hn2 hd2) pa_nil (by rw [hs2]; rfl)
  have pa := pa_cons he pa1 (by rw [hs, hs2])
  refine (pe_callB call_isi hg hm hv pa (he := by rw [hs, hs2]) (hpl := hpl)).run pins s σ H Q I ?_
  refine ⟨env, M, μ, r, o.imp fun r1 env1 M1 o1 v H1 μ1 g => ?_⟩
  cases e1 : vw env1 M1 r1 with
  | none => simp [vws, e1] at o1; exact o1.elim
  | some vv =>
    have o1 : Out p σ H env μ (optE (bltO (.isi t) [vv]) env1 M1) (Post p σ H env μ Q) := by simpa [vws, e1] using o1
    obtain ⟨r2, e2, q⟩ := optE_out o1
    obtain ⟨b, e3, rfl⟩ := Option.map_eq_some_iff.mp (show (tyO t vv).map _ = some r2 from e2)
    have hv := g.rep.view g.rel e1
    have fin : ∀ {tt : String}, TyX X.K H1 v (.type tt) → kitB tt n = some b → rIsi X.K [v, .ty n] H1 Q := fun {tt} h1 h2 =>
      ⟨v, .ty n, _, _, b, rfl, .ty n, h1, kit_ty h2, q (.bl b) H1 μ1 ⟨g.rel, g.sk, .bl b, g.ext, trivial⟩⟩
    subst ht
    have kit : ∀ (tt : String) (l : List (Ty × Bool)), (l.all fun z => kitB tt z.1.name == some z.2) = true → (t, b) ∈ l → kitB tt t.name = some b := fun tt l h hm => by
      have := List.all_eq_true.mp h _ hm
      simpa using this
    unfold tyO at e3
    split at e3
    · obtain ⟨h, _⟩ := hv; cases h; cases e3
      refine fin (.base .non) (kit "NoneType" [(.int, false), (.bool, false), (.str, false), (.tuple, false), (.list, false)] (by decide +kernel) ?_)
      cases t <;> simp at hnc ⊢
    · obtain ⟨h, _⟩ := hv; cases h; cases e3
      refine fin (.base (.bl _)) (kit "bool" [(.int, true), (.bool, true), (.str, false), (.tuple, false), (.list, false)] (by decide +kernel) ?_)
      cases t <;> simp at hnc ⊢
    · obtain ⟨h, _⟩ := hv; cases h; cases e3
      refine fin (.base (.int _)) (kit "int" [(.int, true), (.bool, false), (.str, false), (.tuple, false), (.list, false)] (by decide +kernel) ?_)
      cases t <;> simp at hnc ⊢
    · obtain ⟨h, _⟩ := hv; cases h; cases e3
      refine fin (.base (.str _)) (kit "str" [(.int, false), (.bool, false), (.str, true), (.tuple, false), (.list, false)] (by decide +kernel) ?_)
      cases t <;> simp at hnc ⊢
    · obtain ⟨h, _⟩ := hv; cases e3
      cases h with
      | tup hq he =>
        rename_i aa _
        have ty : TyX X.K H1 (.ref aa) (.type "tuple") := by
          rw [hK] at hq
          rcases hq with (hq | ⟨o, hq⟩) | hq
          · exact .base (.tup hq)
          · exact .fTuple hq
          · obtain ⟨o, its, n, k1, k2, _⟩ := hq
            exact .kTuple k1 k2
        refine fin ty (kit "tuple" [(.int, false), (.bool, false), (.str, false), (.tuple, true), (.list, false)] (by decide +kernel) ?_)
        cases t <;> simp at hnc ⊢
    · cases e3
      obtain ⟨a, vs, rfl, h1, h2⟩ := hv
      have ty : TyX X.K H1 (.ref a) (.type "list") := by
        rw [hK] at h1
        rcases h1 with (h1 | ⟨o, h1⟩) | ⟨o, its, n, k1, k2, _⟩
        · exact .base (.lst h1)
        · exact .base (.frz h1)
        · exact .kList k1 k2
      refine fin ty (kit "list" [(.int, false), (.bool, false), (.str, false), (.tuple, false), (.list, true)] (by decide +kernel) ?_)
      cases t <;> simp at hnc ⊢
    · cases e3
end
end Iv

/-! Iv: objects that change; methods. -/
namespace Iv
open PySem PySem.Spec PyProof.Rows L2

def PlAt (env : Env) (μ : List Addr) (σ : L2.St) : Pl → Addr → Prop
  | .slot i, a => (∃ o, env[i]? = some (some (.own o))) ∧ σ[i]? = some (some (.ref a))
  | .mem j, a => μ[j]? = some a
/-- only the object at a changed (others may be new) -/
structure Chg (a : Addr) (H H' : Hp) : Prop where
  was : ∃ u, H a = some u ∧ ¬ Fz u
  is : ∃ u, H' a = some u
  oth : ∀ b o, b ≠ a → H b = some o → H' b = some o
section
variable {w : World} {K : PySem.W.Frag} {env env' : Env} {M M' : Mem} {μ : List Addr} {σ : L2.St} {H H' : Hp} {a : Addr}
theorem Chg.fz (c : Chg a H H') : FzE H H' := fun b o e f => by
  obtain ⟨u, h1, h2⟩ := c.was
  exact c.oth b o (fun z => h2 (by subst z; rw [h1] at e; cases e; exact f)) e
theorem Chg.dom (c : Chg a H H') : ∀ b, H' b = none → H b = none := fun b h => by
  by_cases hb : b = a
  · subst hb; obtain ⟨u, e⟩ := c.is; rw [e] at h; cases h
  · cases e : H b with
    | none => rfl
    | some o => rw [c.oth b o hb e] at h; cases h
theorem Chg.upd {o : HO} (h : ∃ u, H a = some u ∧ ¬ Fz u) : Chg a H (upd H a o) := ⟨h, ⟨_, upd_same⟩, fun b o hb e => by rw [upd_ne hb]; exact e⟩
theorem Rel.at (r : Rel w K env M μ σ H) {x : R} {v : V} {p : Pl} {ob : Ob} (h : RRep w K env μ σ H x v) (hp : place x = some p) (ho : getOb env M p = some ob) : ∃ a, v = .ref a ∧ PlAt env μ σ p a ∧ ObAt w K H μ ob a := by
  cases x with
  | own o => cases hp
  | lnd i =>
    simp only [place, Option.some.injEq] at hp; subst hp
    simp only [getOb] at ho
    split at ho
    · rename_i o e
      cases ho
      obtain ⟨h1, _⟩ := h
      obtain ⟨a, h2, h3, _⟩ := r.own i _ e
      rw [h1] at h2; cases h2
      exact ⟨a, rfl, ⟨⟨_, e⟩, h1⟩, h3⟩
    · cases ho
  | val d =>
    cases d with
    | ref j =>
      simp only [place, Option.some.injEq] at hp; subst hp
      cases h with
      | ref hj =>
        obtain ⟨a, h1, h2⟩ := r.mem j ob ho
        rw [hj] at h1; cases h1
        exact ⟨_, rfl, hj, h2⟩
    | _ => cases hp
theorem RRep.pl {x : R} {v : V} {p : Pl} (h : RRep w K env μ σ H x v) (hp : place x = some p) : RRep w K env μ σ H' x v := by
  cases x with
  | own o => cases hp
  | lnd i => exact h
  | val d =>
    cases d with
    | ref j => cases h with | ref hj => exact .ref hj
    | _ => cases hp
theorem set_own {i : Nat} {o o' : Ob} (e : env[i]? = some (some (.own o))) (j : Nat) : (env.set i (some (.own o')))[j]? = if j = i then some (some (.own o')) else env[j]? := by
  obtain ⟨hi, _⟩ := List.getElem?_eq_some_iff.mp e
  by_cases hj : j = i
  · subst hj; rw [if_pos rfl, List.getElem?_set_self hi]
  · rw [if_neg hj, List.getElem?_set_ne (Ne.symm hj)]
theorem owned_set {i : Nat} {o o' : Ob} (e : env[i]? = some (some (.own o))) (b : Addr) : Owned (env.set i (some (.own o'))) σ b ↔ Owned env σ b := by
  constructor
  · rintro ⟨j, q, h1, h2⟩
    rw [set_own e] at h1
    by_cases hj : j = i
    · subst hj; exact ⟨j, o, e, h2⟩
    · rw [if_neg hj] at h1; exact ⟨j, q, h1, h2⟩
  · rintro ⟨j, q, h1, h2⟩
    by_cases hj : j = i
    · subst hj; exact ⟨j, o', by rw [set_own e, if_pos rfl], h2⟩
    · exact ⟨j, q, by rw [set_own e, if_neg hj]; exact h1, h2⟩
theorem Rel.chg {α : Type} {y z : α} {ob' : Ob} {p : Pl} (r : Rel w K env M μ σ H) (hp : PlAt env μ σ p a) (c : Chg a H H') (ho : ObAt w K H' μ ob' a) (e : setOb env M y ob' p = .ok z env' M') : y = z ∧ Rel w K env' M' μ σ H' ∧ Ext env μ σ H env' μ σ H' ∧ SK env env' := by
  have val' : ∀ {d : D} {v : V}, Enc w K H μ d v → Enc w K H' μ d v := fun h => h.mono c.fz fun _ _ z => z
  have at' : ∀ {o : Ob} {b : Addr}, b ≠ a → ObAt w K H μ o b → ObAt w K H' μ o b := fun {o b} hb h => by
    obtain ⟨u, e, _⟩ := h.some
    exact h.mono c.fz (fun _ _ z => z) ((c.oth b u hb e).trans e.symm)
  cases p with
  | slot i =>
    obtain ⟨⟨o, eo⟩, ea⟩ := hp
    simp only [setOb, Res.ok.injEq] at e
    obtain ⟨rfl, rfl, rfl⟩ := e
    obtain ⟨a', q1, q2, q3⟩ := r.own i o eo
    rw [ea] at q1; cases q1
    have ow : Owned env σ a := ⟨i, o, eo, ea⟩
    refine ⟨rfl, ⟨by simp [r.len], fun j d h => ?_, fun j q h => ?_, fun j q h => ?_, fun j q h => ?_, r.mlen, r.nd, fun j j' q q' b h1 h2 h3 h4 => ?_⟩, ⟨⟨[], by simp⟩, fun b q h n1 n2 => c.oth b q (fun z => n2 (z ▸ ow)) h, fun b h => .inl ((owned_set eo b).mp h), fun j q h => ?_, c.fz, c.dom⟩, fun j => ?_⟩
    · rw [set_own eo] at h
      by_cases hj : j = i
      · rw [if_pos hj] at h; cases h
      · rw [if_neg hj] at h
        obtain ⟨v, h1, h2⟩ := r.val j d h
        exact ⟨v, h1, val' h2⟩
    · rw [set_own eo] at h
      by_cases hj : j = i
      · rw [if_pos hj] at h; cases h; subst hj
        exact ⟨a, ea, ho, q3⟩
      · rw [if_neg hj] at h
        obtain ⟨b, h1, h2, h3⟩ := r.own j q h
        refine ⟨b, h1, at' (fun z => ?_) h2, h3⟩
        subst z
        exact hj (r.sep j i q o b h h1 eo ea)
    · rw [set_own eo] at h
      by_cases hj : j = i
      · rw [if_pos hj] at h; cases h
      · rw [if_neg hj] at h
        obtain ⟨b, h1, h2, h3, h4⟩ := r.lck j q h
        exact ⟨b, h1, at' (fun z => h4 (z ▸ ow)) h2, h3, fun z => h4 ((owned_set eo b).mp z)⟩
    · obtain ⟨b, h1, h2⟩ := r.mem j q h
      exact ⟨b, h1, at' (fun z => q3 (z ▸ List.mem_of_getElem? h1)) h2⟩
    · have key : ∀ {j : Nat} {q : Ob}, (env.set i (some (.own ob')))[j]? = some (some (.own q)) → ∃ q', env[j]? = some (some (.own q')) := fun {j q} h => by
        rw [set_own eo] at h
        by_cases hj : j = i
        · subst hj; exact ⟨o, eo⟩
        · rw [if_neg hj] at h; exact ⟨q, h⟩
      obtain ⟨_, k1⟩ := key h1
      obtain ⟨_, k2⟩ := key h3
      exact r.sep j j' _ _ b k1 h2 k2 h4
    · rw [set_own eo] at h
      by_cases hj : j = i
      · rw [if_pos hj] at h; cases h
      · rw [if_neg hj] at h; exact ⟨h, rfl⟩
    · rw [set_own eo]
      by_cases hj : j = i
      · subst hj; rw [if_pos rfl]; exact .inr ⟨o, ob', eo, rfl⟩
      · rw [if_neg hj]; exact .inl rfl
  | mem j0 =>
    simp only [setOb, Res.ok.injEq] at e
    obtain ⟨rfl, rfl, rfl⟩ := e
    have hp : μ[j0]? = some a := hp
    have ha : a ∈ μ := List.mem_of_getElem? hp
    refine ⟨rfl, ⟨r.len, fun j d h => ?_, fun j q h => ?_, fun j q h => ?_, fun j q h => ?_, by simp [r.mlen], r.nd, r.sep⟩, ⟨⟨[], by simp⟩, fun b q h n1 n2 => c.oth b q (fun z => n1 (z ▸ ha)) h, fun b h => .inl h, fun j q h => ⟨h, rfl⟩, c.fz, c.dom⟩, SK.refl _⟩
    · obtain ⟨v, h1, h2⟩ := r.val j d h
      exact ⟨v, h1, val' h2⟩
    · obtain ⟨b, h1, h2, h3⟩ := r.own j q h
      exact ⟨b, h1, at' (fun z => h3 (z ▸ ha)) h2, h3⟩
    · obtain ⟨b, h1, h2, h3, h4⟩ := r.lck j q h
      exact ⟨b, h1, at' (fun z => h3 (z ▸ ha)) h2, h3, h4⟩
    · by_cases hj : j = j0
      · subst hj
        have hlt : j < M.length := by rw [r.mlen]; exact (List.getElem?_eq_some_iff.mp hp).1
        rw [List.getElem?_set_self hlt] at h; cases h
        exact ⟨a, hp, ho⟩
      · rw [List.getElem?_set_ne (Ne.symm hj)] at h
        obtain ⟨b, h1, h2⟩ := r.mem j q h
        refine ⟨b, h1, at' (fun z => ?_) h2⟩
        subst z
        exact hj ((List.getElem?_inj (List.getElem?_eq_some_iff.mp h1).1 r.nd).mp (h1.trans hp.symm))
end

/-! ### o[i] = d -/
section
variable {p : Pm} {X : Cx} {σ : L2.St} {H H1 : Hp} {env env1 : Env} {M M1 : Mem} {μ μ1 : List Addr} {pins : List (Addr × Obj)} {s : Shared} {e o i : Expr} {es : List Expr} {fo fi : Ev} {fs : Evs} {pos pp : Pos}
theorem setOb_out {α : Type} {y : α} {ob : Ob} {pl : Pl} {P : α → Env → Mem → Prop} (h : Out p σ H env μ (setOb env1 M1 y ob pl) P) : ∃ env2 M2, setOb env1 M1 y ob pl = .ok y env2 M2 ∧ P y env2 M2 := by
  cases pl with
  | slot i => exact ⟨_, _, rfl, h⟩
  | mem j => exact ⟨_, _, rfl, h⟩
theorem jg_sub (ho : JE p X o fo) (hi : JE p X i fi) (ha : ∀ v, assign (.Subscript o i pos) X.env v = (do
      let ov ← holding [v] (eval o X.env)
      let iv ← holding [v, ov] (eval i X.env)
      standAt pos
      holding [v, ov, iv] (setItem ov iv v)
      release [v, ov, iv] [])) : JG p X (.Subscript o i pos) (tkSub fo fi) := by
  refine ⟨fun pins s σ H v u Q I rv ⟨env, M, μ, d, r, h, out⟩ => ?_⟩
  rw [ha]
  refine wpAny_bind (wpAny_holding (thn (JE.go ho I r (Out.bind out)) fun ov s1 ⟨x, r1, env1, M1, H1, μ1, I1, rx, g1, o1⟩ => ?_))
  refine wpAny_bind (wpAny_holding (thn (JE.go hi I1 g1.rel (o1.shift g1.ext).bind) fun iv s2 ⟨y, r2, env2, M2, H2, μ2, I2, ry, g2, o2⟩ => ?_))
  have rep1 := g1.rep.later g2
  have hd : Enc p.w p.K H2 μ2 d v := (h.mono g1.ext.fz g1.ext.mu).mono g2.ext.fz g2.ext.mu
  split at o2
  · rename_i pl vv e1 e2
    split at o2
    · rename_i ob e3
      split at o2
      · rename_i ob' e4
        obtain ⟨env3, M3, e5, q⟩ := setOb_out o2
        obtain ⟨a, rfl, hp, hob⟩ := g2.rel.at rep1 e1 e3
        have hv := g2.rep.view g2.rel e2
        unfold setO at e4
        split at e4
        · obtain ⟨j, e6, rfl⟩ := Option.map_eq_some_iff.mp e4
          obtain ⟨vs, h1, h2⟩ := hob
          obtain ⟨hv, _⟩ := hv
          cases hv
          refine wpAny_bind (wpAny_standAt (wpAny_bind (wpAny_holding (thn (set_list pins s2 σ H2 _ _ v ov iv u (fun H3 => H3 = upd H2 a (.lst (vs.set j v))) I2 rx ry rv ⟨a, vs, _, j, rfl, rfl, h1, by rw [← h2.length]; exact e6, rfl⟩) fun _ s3 ⟨H3, I3, eH⟩ => ?_))))
          subst eH
          have c : Chg a H2 (upd H2 a (.lst (vs.set j v))) := .upd ⟨_, h1, fun z => z⟩
          obtain ⟨_, rel3, x3, k3⟩ := g2.rel.chg hp c (ob' := .lst (_ : List D)) ⟨_, upd_same, (h2.mono c.fz fun _ _ z => z).set j (hd.mono c.fz fun _ _ z => z)⟩ e5
          exact wpAny_release ⟨σ, _, I3, q σ _ μ2 ⟨rel3, (g1.ext.trans g2.ext).trans x3⟩⟩
        · cases e4
      · exact o2.elim
    · exact o2.elim
  · exact o2.elim

/-! ### methods -/
structure MtS (p : Pm) (X : Cx) (k : Kd) (T : String) (name : PySem.Str) (m : Mth) : Prop where
  run : ∃ id, PlainAttrs T ∧ Slot T name id ∧ typeOf (.builtin id) = pure (.type "method_descriptor") ∧
    ∀ (pins : List (Addr × Obj)) (s : Shared) (σ : L2.St) (H : Hp) (env : Env) (M : Mem) (μ : List Addr) (x : V) (v : Value) (r : R) (vs : List V) (us : List Value) (rs : List R) (Q : VK) (H0 : Hp) (env0 : Env) (μ0 : List Addr),
      Inv X pins σ H s → GotL p σ H0 env0 μ0 rs env M vs H μ → RRep p.w p.K env μ σ H r x → RelV x v → Vals vs us → Out p σ H0 env0 μ0 (metK m k r rs env M) (Post p σ H0 env0 μ0 Q) → wpAny (model X.prog X.w) X.A (PySem.call (.builtin id) (v :: us)) (EP X pins σ Q) X.xe s
def Kd.nm : Kd → String
  | .lst => "list"
  | .tup => "tuple"
  | .str => "str"
  | .dic => "dict"
  | .set => "set"
/-- the receiver's type -/
theorem kd_is {x : V} {v : Value} {vv : Vw} {k : Kd} (I : Inv X pins σ H s) (hK : p.K = X.K) (rv : RelV x v) (h : VAt p.w p.K H μ vv x) (e : vv.kd = some k) (nt : k ≠ .tup) : s.TypeIs v k.nm ∧ ∀ a, v = .ref a → ∃ ob, s.heap.get? a = some ob ∧ ob.dict = none := by
  unfold Vw.kd at e
  split at e
  · cases e
    exact absurd rfl nt
  · cases e
    obtain ⟨h, _⟩ := h
    cases h
    obtain ⟨t, rfl⟩ := rv
    exact ⟨typeIs_str s _ t, fun _ e => nomatch e⟩
  · rename_i o
    cases o with
    | lst xs =>
      cases e
      obtain ⟨a, vs, rfl, h1, h2⟩ := h
      have rv : v = .ref a := rv
      subst rv
      obtain ⟨its, _, pl, _⟩ := I.list (hK ▸ h1 : SqL X.K H a vs)
      refine ⟨pl.isList.typeIs, fun b e => ?_⟩
      cases e
      obtain ⟨ob, n, e, c, hd, _⟩ := pl
      exact ⟨ob, e, hd⟩
    | dic kvs =>
      cases e
      obtain ⟨a, ob, rfl, h1, es, ep, h2, h3, _⟩ := h
      have rv : v = .ref a := rv
      subst rv
      have ho : s.heap.get? a = some ob := by
        rcases h1 with h1 | ⟨od, h1⟩
        · exact (I.hok a _ h1).1
        · exact (I.hok a _ h1).2.1
      refine ⟨⟨ob, ho, h2.1⟩, fun b e => ?_⟩
      cases e
      exact ⟨ob, ho, h2.2.1⟩
    | set xs => exact h.elim
    | ins c fs => exact h.elim
  · cases e
theorem je_met {m : Mth} {name : PySem.Str} {apos cpos : Pos} (hK : p.K = X.K) (ho : JE p X o fo) (ha : JA p X (e :: es) fs) (hm : ∀ k, mtOk k m = true → k ≠ .tup ∧ MtS p X k k.nm name m)
    (hbase : attributeBase o name X.env (eval o X.env) = eval o X.env)
    (hfew : ((backTo cpos (starEach (e :: es) X.env)).all (fun x => !x.1) && (backToKw cpos (keywordEach [] X.env)).all (fun x => x.1.isSome)
      && decide ((e :: es).length + ([] : List Keyword).length + (if ([] : List Keyword).isEmpty then 0 else 1) < 30)) = true)
    (hline : (apos.endLine == cpos.line) = true) (hs : starEach (e :: es) X.env = (false, eval e X.env) :: starEach es X.env) (hplain : (backTo cpos (starEach es X.env)).any (·.1) = false) :
    JE p X (.Call (.Attribute o name apos) (e :: es) [] cpos) (metE m fo fs) := by
  refine JE.of fun pins s σ H Q env M μ I r out => ?_
  refine wpAny_Call_method_late hbase hfew hline rfl (thn (JE.go ho I r (Out.bind out)) fun v s1 ⟨x, r1, env1, M1, H1, μ1, I1, rx, g1, o1⟩ => ?_)
  cases e1 : (vw env1 M1 r1).bind Vw.kd with
  | none => rw [e1] at o1; exact o1.elim
  | some k =>
    rw [e1] at o1
    simp only at o1
    split at o1
    · rename_i hk
      obtain ⟨nt, id, pa, slot, hty, hrun⟩ := hm k hk
      obtain ⟨vv, e2, e3⟩ := Option.bind_eq_some_iff.mp e1
      obtain ⟨h1, h2⟩ := kd_is I1 hK rx (g1.rep.view g1.rel e2) e3 nt
      refine ⟨k.nm, id, pa, slot, hty, h1, h2, ?_⟩
      have hA := JA.go (pos := cpos) ha I1 g1.rel (o1.shift g1.ext).bind
      rw [hs] at hA ⊢
      refine Calls.callWith_builtin (by show (false || (backTo cpos (starEach es X.env)).any (·.1)) = false; rw [hplain] <;> rfl) (Calls.evalArgs_plain ?_)
      refine thn hA fun us s2 ⟨vs, rs, env2, M2, H2, μ2, I2, rv, g2, o2⟩ => ?_
      refine hrun pins s2 σ H2 env2 M2 μ2 x v r1 vs us rs Q H1 env1 μ1 I2 g2 (g1.rep.ext g2.ext g2.sk.kind) rx rv (o2.imp fun r3 env3 M3 q z H3 μ3 g3 => q z H3 μ3 (g1.after g3))
    · exact o1.elim
/-- a method that keeps what it is handed: frozen -/
theorem mts_frz {k : Kd} {T id : String} {name : PySem.Str} {m : Mth} (hmode : m.mode = .frz) (pa : PlainAttrs T) (slot : Slot T name id) (hty : typeOf (.builtin id) = pure (.type "method_descriptor"))
    (h : ∀ (pins : List (Addr × Obj)) (s : Shared) (σ : L2.St) (H : Hp) (μ : List Addr) (a : Addr) (v : Value) (ob ob' : Ob) (d : D) (ds : List D) (vs : List V) (us : List Value) (Q : VK), Inv X pins σ H s → ObAt p.w p.K H μ ob a → Encs p.w p.K H μ ds vs → RelV (.ref a) v → Vals vs us → chgD m ob ds = some (d, ob') →
      (∀ z H', Chg a H H' → ObAt p.w p.K H' μ ob' a → Enc p.w p.K H' μ d z → Q z H') → wpAny (model X.prog X.w) X.A (PySem.call (.builtin id) (v :: us)) (EP X pins σ Q) X.xe s) : MtS p X k T name m := by
  refine ⟨id, pa, slot, hty, fun pins s σ H env M μ x v r vs us rs Q H0 env0 μ0 I g rep rx rv out => ?_⟩
  unfold metK at out
  rw [hmode] at out
  simp only at out
  split at out
  · rename_i pl ds e1 e2
    split at out
    · rename_i ob e3
      split at out
      · split at out
        · rename_i d ob' e4
          obtain ⟨env3, M3, e5, q⟩ := setOb_out out
          obtain ⟨a, rfl, hp, hob⟩ := g.rel.at rep e1 e3
          obtain ⟨H2, I2, rel2, x2, he⟩ := g.enc I e2
          obtain ⟨a', ea, hp2, hob2⟩ := Rel.at rel2 (x := r) (v := .ref a) (rep.pl e1) e1 e3
          cases ea
          refine h pins s σ H2 μ a v ob ob' d ds vs us Q I2 hob2 he rx rv e4 fun z H' c hob' hz => ?_
          obtain ⟨_, rel3, x3, k3⟩ := rel2.chg hp2 c hob' e5
          exact q z H' μ ⟨rel3, g.sk.trans k3, hz, x2.trans x3, trivial⟩
        · exact out.elim
      · exact out.elim
    · exact out.elim
  · exact out.elim
theorem ms_append : MtS p X .lst "list" "append" .append := by
  refine mts_frz rfl PySem.F.plainAttrs_list PySem.F.slot_list_append PySem.F.type_list_append fun pins s σ H μ a v ob ob' d ds vs us Q I hob he ra rv e q => ?_
  unfold chgD at e
  split at e
  · split at e
    · rename_i xs d' _ hz
      cases e
      obtain ⟨ws, h1, h2⟩ := hob
      cases he with
      | cons hd t =>
        cases t
        have hz : xs.length < sizeLine := by simpa using hz
        rename_i v0
        have c : Chg a H (upd H a (.lst (ws ++ [v0]))) := .upd ⟨_, h1, fun z => z⟩
        exact mt_append pins s σ H _ _ v us Q I ra rv ⟨a, ws, _, rfl, rfl, h1, by rw [← h2.length]; exact hz, q .non _ c ⟨_, upd_same, Encs.append (h2.mono c.fz fun _ _ z => z) (.cons (hd.mono c.fz fun _ _ z => z) .nil)⟩ .non⟩
    · cases e
  · cases e
end
end Iv

/-! Iv: the loop of a comprehension, any clause. -/
namespace Iv
open PySem PySem.Spec PyProof.Rows L2

def emitOf (C : Expr) (acc : Value) (env : PySem.Env) : Sem Unit := match C with
  | .ListComp elt _ _ _ => do let _ ← PySem.call (.builtin "list.append") [acc, ← eval elt env]
  | .SetComp elt _ _ _ => do let v ← eval elt env; standAt elt.pos; let _ ← PySem.call (.builtin "set.add") [acc, v]
  | .DictComp k v _ _ _ => do
        let kv ← eval k env
        let vv ← holding [kv] (eval v env)
        match acc with
        | .ref d => do
          standAt { k.pos with endLine := v.pos.endLine, endCol := v.pos.endCol }
          holding [kv, vv] (dictSet d kv vv)
        | _ => unsupported "internal:dictcomp"
  | _ => unsupported "internal:not-a-comprehension"
/-- a comprehension of these kinds -/
def isComp : Expr → Bool
  | .ListComp _ _ _ _ => true
  | .SetComp _ _ _ _ => true
  | .DictComp _ _ _ _ _ => true
  | _ => false
theorem compTurn_last {C tg iter : Expr} {ifs : List Expr} {k : Nat} (hC : isComp C = true) (hk : (clausesOf C)[k]? = some ⟨tg, iter, ifs, 0⟩) (hk1 : (clausesOf C)[k + 1]? = none) (it acc : Value) (env : PySem.Env) : compTurn C k it acc env = (do
      standAt iter.pos
      match ← pyNext it with
      | none => pure (.done .next)
      | some v =>
        letOwnedTupleGo tg it v
        assign tg env v
        let mut ok := true
        for c in ifs do
          if ok then ok ← isTrue c env (eval c env)
        if ok then
          emitOf C acc env
        again (.compLoop C k it acc env)) := by
  cases C <;> first
    | (exfalso; revert hC; simp [isComp]; done)
    | (simp only [clausesOf] at hk hk1
       unfold compTurn emitOf
       simp only [hk, hk1]
       rfl)
theorem compTurn_more {C tg iter tg1 iter1 : Expr} {ifs ifs1 : List Expr} {k : Nat} (hC : isComp C = true) (hk : (clausesOf C)[k]? = some ⟨tg, iter, ifs, 0⟩) (hk1 : (clausesOf C)[k + 1]? = some ⟨tg1, iter1, ifs1, 0⟩) (it acc : Value) (env : PySem.Env) : compTurn C k it acc env = (do
      standAt iter.pos
      match ← pyNext it with
      | none => pure (.done .next)
      | some v =>
        letOwnedTupleGo tg it v
        assign tg env v
        let mut ok := true
        for c in ifs do
          if ok then ok ← isTrue c env (eval c env)
        if ok then
          let x ← eval iter1 env
          standAt iter1.pos
          let x ← foldedSetIterable iter1 env x
          let _ ← runOwn (.compStart C (k + 1) (← holding [x] (pyIter x)) acc env) env
        again (.compLoop C k it acc env)) := by
  cases C <;> first
    | (exfalso; revert hC; simp [isComp]; done)
    | (simp only [clausesOf] at hk hk1
       unfold compTurn
       simp only [hk, hk1]
       rfl)
section
variable {prog : Program} {w : World} {A : Around} {R : Result → Shared → Prop} {s : Shared} {C tg iter : Expr} {ifs : List Expr} {k : Nat} {it acc : Value} {env : PySem.Env}
/-- what is done in a turn where the tests hold: Q behind it -/
def RestW (prog : Program) (w : World) (A : Around) (C : Expr) (k : Nat) (acc : Value) (env : PySem.Env) (E : Value → Shared → Prop) (Q : Shared → Prop) (s : Shared) : Prop :=
  match (clausesOf C)[k + 1]? with
  | none => wpAny (model prog w) A (emitOf C acc env) (fun _ s' => Q s') E s
  | some g => wpAny (model prog w) A (eval g.iter env) (fun x s₄ => wpAny (model prog w) A (pyIter x) (fun it1 s₅ => codeAny (model prog w) A (.compStart C (k + 1) it1 acc env) (fun r s' => match r with
        | .ok _ => Q s'
        | .error _ => False) s₅) E s₄) E s
/-- the next clause is plain -/
def NextOk (C : Expr) (k : Nat) (env : PySem.Env) : Prop := match (clausesOf C)[k + 1]? with
  | none => True
  | some g => g.is_async = 0 ∧ ∀ x, foldedSetIterable g.iter env x = pure x
theorem loop_den (hC : isComp C = true) : A.under (.compLoop C k it acc env) = A ∧ (model prog w).den (.compLoop C k it acc env) = (compTurn C k it acc env).onRaise (fun x => do noteFrame x env; theTreesLotGoes x) := by
  cases C <;> first
    | (exfalso; revert hC; simp [isComp]; done)
    | exact ⟨rfl, rfl⟩
theorem start_den (hC : isComp C = true) : A.under (.compStart C k it acc env) = A ∧ (model prog w).den (.compStart C k it acc env) = (compStart C k it acc env).onRaise (fun x => do noteFrame x env; standAt theWindowsPlace) := by
  cases C <;> first
    | (exfalso; revert hC; simp [isComp]; done)
    | exact ⟨rfl, rfl⟩
theorem loop_go (hC : isComp C = true) (hk : (clausesOf C)[k]? = some ⟨tg, iter, ifs, 0⟩) (hn : NextOk C k env) (I : Nat → Shared → Prop)
    (turn : ∀ n s, I n s → wpAny (model prog w) A (pyNext it) (fun r s₁ => match r with
      | none => R (.ok .next) s₁
      | some v => wpAny (model prog w) A (letOwnedTupleGo tg it v) (fun _ s₁' => wpAny (model prog w) A (assign tg env v) (fun _ s₂ =>
          wpAny (model prog w) A (forIn ifs true fun c r => if r = true then do let ok ← isTrue c env (eval c env); pure (ForInStep.yield ok) else pure (ForInStep.yield r)) (fun ok s₃ =>
            if ok = true then RestW prog w A C k acc env (notedBy (model prog w) A env fun e s' => R (.error e) s') (fun s₄ => ∃ m, m < n ∧ I m s₄) s₃
            else ∃ m, m < n ∧ I m s₃) (notedBy (model prog w) A env fun e s' => R (.error e) s') s₂) (notedBy (model prog w) A env fun e s' => R (.error e) s') s₁') (notedBy (model prog w) A env fun e s' => R (.error e) s') s₁) (notedBy (model prog w) A env fun e s' => R (.error e) s') s)
    (n : Nat) (h : I n s) :
    codeAny (model prog w) A (.compLoop C k it acc env) R s := by
  refine codeAny_loop rfl I (fun n s hI => ?_) n h
  rw [(loop_den (A := A) (prog := prog) (w := w) hC).1, (loop_den (A := A) hC).2]
  refine wpAny_noted ?_
  unfold NextOk at hn
  unfold RestW at turn
  cases hk1 : (clausesOf C)[k + 1]? with
  | none =>
    rw [hk1] at turn
    rw [compTurn_last hC hk hk1]
    refine wpAny_bind (wpAny_standAt (wpAny_bind (wpAny_mono (turn n s hI) (fun r s₁ h₁ => ?_) fun _ _ h' => h')))
    cases r with
    | none => exact wpAny_pure h₁
    | some v =>
      refine wpAny_bind (wpAny_mono h₁ (fun _ s₁' h₁' => ?_) fun _ _ h' => h')
      refine wpAny_bind (wpAny_mono h₁' (fun _ s₂ h₂ => wpAny_bind (wpAny_mono h₂ (fun ok s₃ h₃ => ?_) fun _ _ h' => h')) fun _ _ h' => h')
      cases ok with
      | false => exact wpAny_pure ⟨rfl, h₃⟩
      | true => exact wpAny_bind (wpAny_mono h₃ (fun _ s₄ h₄ => wpAny_pure ⟨rfl, h₄⟩) fun _ _ h' => h')
  | some g =>
    rw [hk1] at turn hn
    obtain ⟨tg1, iter1, ifs1, ia⟩ := g
    obtain ⟨rfl, hs⟩ := hn
    rw [compTurn_more hC hk hk1]
    refine wpAny_bind (wpAny_standAt (wpAny_bind (wpAny_mono (turn n s hI) (fun r s₁ h₁ => ?_) fun _ _ h' => h')))
    cases r with
    | none => exact wpAny_pure h₁
    | some v =>
      refine wpAny_bind (wpAny_mono h₁ (fun _ s₁' h₁' => ?_) fun _ _ h' => h')
      refine wpAny_bind (wpAny_mono h₁' (fun _ s₂ h₂ => wpAny_bind (wpAny_mono h₂ (fun ok s₃ h₃ => ?_) fun _ _ h' => h')) fun _ _ h' => h')
      cases ok with
      | false => exact wpAny_pure ⟨rfl, h₃⟩
      | true =>
        refine wpAny_bind (wpAny_mono h₃ (fun x s₄ h₄ => ?_) fun _ _ h' => h')
        refine wpAny_bind (wpAny_standAt (wpAny_bind (wpAny_of_eq (hs x) (wpAny_bind (wpAny_holding (wpAny_mono h₄ (fun it1 s₅ h₅ => ?_) fun _ _ h' => h'))))))
        refine wpAny_bind (wpAny_runOwn ?_)
        rw [Around.mark_none]
        refine codeAny_mono h₅ fun r s' hr => ?_
        cases r with
        | ok f =>
          first
            | exact wpAny_pure ⟨rfl, hr⟩
            | exact wpAny_bind (wpAny_pure (wpAny_pure ⟨rfl, hr⟩))
        | error e => exact hr.elim
theorem start_go (hC : isComp C = true) (hk : (clausesOf C)[k]? = some ⟨tg, iter, ifs, 0⟩) (h0 : codeAny (model prog w) A (.compLoop C k it acc env) R s)
    (h : wpAny (model prog w) A (pyIter it) (fun it' s' => codeAny (model prog w) A (.compLoop C k it' acc env) R s') (notedBy (model prog w) A env fun x s' => R (.error x) s') s) :
    codeAny (model prog w) A (.compStart C k it acc env) R s := by
  refine codeAny_of_tree ?_
  rw [(start_den (A := A) (prog := prog) (w := w) hC).1, (start_den (A := A) hC).2]
  refine wpAny_notedAt ?_
  unfold compStart
  rw [hk]
  show wpAny _ _ (ask >>= _) _ _ s
  refine wpAny_bind (wpAny_askSetting (wpAny_ite ?_))
  split
  · first
      | exact wpAny_bind (wpAny_pure (wpAny_pure (And.intro rfl h0)))
      | exact wpAny_pure (And.intro rfl h0)
  · first
      | exact wpAny_bind (wpAny_rule (wpAny_bind (wpAny_standAt (wpAny_bind (wpAny_mono h (fun it' s' h' => wpAny_pure (And.intro rfl h')) fun _ _ x => x)))))
      | (refine wpAny_bind (wpAny_rule ?_); show wpAny _ _ (standAt iter.pos >>= _) _ _ s; exact wpAny_bind (wpAny_standAt (wpAny_bind (wpAny_mono h (fun it' s' h' => wpAny_pure (And.intro rfl h')) fun _ _ x => x))))
end
end Iv

/-! Iv: comprehensions. -/
namespace Iv
open PySem PySem.Spec PyProof.Rows L2

/-- it comes to an end, no exception -/
def OutK {α : Type} (res : Res α) (P : α → Env → Mem → Prop) : Prop :=
  match res with
  | .ok a env M => P a env M
  | _ => False
theorem OutK.bind {α β : Type} {res : Res α} {k : α → Env → Mem → Res β} {P : β → Env → Mem → Prop} (h : OutK (res.bind k) P) : OutK res fun a env M => OutK (k a env M) P := by
  cases res with
  | stuck => exact h
  | ok a env M => exact h
  | exc x env M => exact h
theorem OutK.out {α : Type} {res : Res α} {P : α → Env → Mem → Prop} {p : Pm} {σ : L2.St} {H : Hp} {env : Env} {μ : List Addr} (h : OutK res P) : Out p σ H env μ res P := by
  cases res with
  | stuck => exact h
  | ok a env M => exact h
  | exc x env M => exact h.elim
/-- the heap without what is being built -/
def hid (H : Hp) (d : Addr) : Hp := fun b => if b = d then none else H b
structure AccAt (p : Pm) (AO : List D → Option Ob) (Dd : Addr) (acc : List D) (env : Env) (M : Mem) (μ : List Addr) (σ : L2.St) (H : Hp) : Prop where
  rel : Rel p.w p.K env M μ σ H
  ob : ∃ o, AO acc = some o ∧ ObAt p.w p.K H μ o Dd
  nmu : Dd ∉ μ
  nh : ¬ Held env σ Dd
section
variable {p : Pm} {X : Cx} {AO : List D → Option Ob} {Dd : Addr} {acc : List D} {σ σ1 : L2.St} {H H1 : Hp} {env env1 : Env} {M M1 : Mem} {μ μ1 : List Addr} {pins : List (Addr × Obj)} {s : Shared}
theorem hid_ne {b : Addr} (h : b ≠ Dd) : hid H Dd b = H b := if_neg h
theorem hid_self : hid H Dd Dd = none := if_pos rfl
theorem hid_none {b : Addr} (h : H b = none) : hid H Dd b = none := by
  unfold hid; split
  · rfl
  · exact h
theorem hid_some {b : Addr} {o : HO} (h : hid H Dd b = some o) : b ≠ Dd ∧ H b = some o := by
  unfold hid at h
  split at h
  · cases h
  · rename_i hb; exact ⟨hb, h⟩
theorem hid_upd {o : HO} : hid (upd H Dd o) Dd = hid H Dd := by
  funext b
  by_cases hb : b = Dd
  · subst hb; rw [hid_self, hid_self]
  · rw [hid_ne hb, hid_ne hb, upd_ne hb]
theorem Ext.hide (x : Ext env μ σ H env1 μ1 σ1 H1) (n1 : Dd ∉ μ) (n2 : ¬ Owned env σ Dd) : Ext env μ σ (hid H Dd) env1 μ1 σ1 (hid H1 Dd) where
  pre := by
    obtain ⟨ν, e, f⟩ := x.pre
    exact ⟨ν, e, fun a ha => hid_none (f a ha)⟩
  keep := fun b o h m1 m2 => by
    obtain ⟨h1, h2⟩ := hid_some h
    rw [hid_ne h1]; exact x.keep b o h2 m1 m2
  owned := fun b h => (x.owned b h).imp id hid_none
  lcks := x.lcks
  fz := fun b o h f => by
    obtain ⟨h1, h2⟩ := hid_some h
    rw [hid_ne h1]; exact x.fz b o h2 f
  dom := fun b h => by
    by_cases hb : b = Dd
    · subst hb; exact hid_self
    · rw [hid_ne hb] at h ⊢; exact x.dom b h
theorem AccAt.was (a : AccAt p AO Dd acc env M μ σ H) : ∃ u, H Dd = some u ∧ ¬ Fz u := by
  obtain ⟨o, _, h⟩ := a.ob
  obtain ⟨u, h1, h2, _⟩ := h.some
  exact ⟨u, h1, h2⟩
theorem AccAt.nown (a : AccAt p AO Dd acc env M μ σ H) : ¬ Owned env σ Dd := fun z => a.nh (.inl z)
theorem AccAt.step (a : AccAt p AO Dd acc env M μ σ H) (r : Rel p.w p.K env1 M1 μ1 σ1 H1) (x : Ext env μ σ H env1 μ1 σ1 H1) : AccAt p AO Dd acc env1 M1 μ1 σ1 H1 := by
  obtain ⟨u, h1, h2⟩ := a.was
  obtain ⟨o, e, h⟩ := a.ob
  exact ⟨r, ⟨o, e, h.mono x.fz x.mu ((x.keep _ _ h1 a.nmu a.nown).trans h1.symm)⟩, x.notMu h1 a.nmu, Held.ext x h1 a.nh⟩
/-- never changed things, whatever is built -/
theorem fz_of_hid (x : Ext env μ σ (hid H Dd) env1 μ1 σ1 (hid H1 Dd)) (h : ∃ u, H Dd = some u ∧ ¬ Fz u) : FzE H H1 := fun b o e f => by
  have hb : b ≠ Dd := fun z => by
    subst z
    obtain ⟨u, h1, h2⟩ := h
    rw [h1] at e; cases e
    exact h2 f
  have := x.fz b o (by rw [hid_ne hb]; exact e) f
  rwa [hid_ne hb] at this
def AccPost (p : Pm) (X : Cx) (AO : List D → Option Ob) (pins : List (Addr × Obj)) (Dd : Addr) (env : Env) (μ : List Addr) (σ : L2.St) (H : Hp) (P : List D → Env → Mem → Prop) (s1 : Shared) : Prop :=
  ∃ acc1 env1 M1 μ1 σ1 H1, Inv X pins σ1 H1 s1 ∧ AccAt p AO Dd acc1 env1 M1 μ1 σ1 H1 ∧ Ext env μ σ (hid H Dd) env1 μ1 σ1 (hid H1 Dd) ∧ P acc1 env1 M1
theorem AccPost.shift {P : List D → Env → Mem → Prop} (h : AccPost p X AO pins Dd env1 μ1 σ1 H1 P s) (x : Ext env μ σ (hid H Dd) env1 μ1 σ1 (hid H1 Dd)) : AccPost p X AO pins Dd env μ σ H P s := by
  obtain ⟨acc2, env2, M2, μ2, σ2, H2, I, a, y, q⟩ := h
  exact ⟨acc2, env2, M2, μ2, σ2, H2, I, a, x.trans y, q⟩
/-- what is done in a turn -/
def JK (p : Pm) (X : Cx) (AO : List D → Option Ob) (C : Expr) (k : Nat) (f : List D → Env → Mem → Res (List D)) : Prop :=
  ∀ (pins : List (Addr × Obj)) (s : Shared) (σ : L2.St) (H : Hp) (env : Env) (M : Mem) (μ : List Addr) (Dd : Addr) (acc : List D) (P : List D → Env → Mem → Prop) (E : Value → Shared → Prop), Inv X pins σ H s → AccAt p AO Dd acc env M μ σ H → OutK (f acc env M) P →
    RestW X.prog X.w X.A C k (.ref Dd) X.env E (AccPost p X AO pins Dd env μ σ H P) s
theorem RestW.mono {prog : Program} {w : World} {A : Around} {C : Expr} {k : Nat} {v : Value} {e : PySem.Env} {E : Value → Shared → Prop} {Q Q' : Shared → Prop} (h : RestW prog w A C k v e E Q s) (i : ∀ s, Q s → Q' s) : RestW prog w A C k v e E Q' s := by
  unfold RestW at h ⊢
  split at h
  · exact thn h fun _ s q => i s q
  · refine thn h fun x s1 h1 => thn h1 fun it s2 h2 => codeAny_mono h2 fun r s' hr => ?_
    cases r with
    | ok f => exact i s' hr
    | error e => exact hr
/-- tests in a row -/
def JTs (p : Pm) (X : Cx) (ifs : List Expr) (f : Env → Mem → Res Bool) : Prop :=
  ∀ (pins : List (Addr × Obj)) (s : Shared) (σ : L2.St) (H : Hp) (env : Env) (M : Mem) (μ : List Addr) (P : Bool → Env → Mem → Prop), Inv X pins σ H s → Rel p.w p.K env M μ σ H → Out p σ H env μ (f env M) P →
    wpAny (model X.prog X.w) X.A (forIn ifs true fun c r => if r = true then do let ok ← isTrue c X.env (eval c X.env); pure (ForInStep.yield ok) else pure (ForInStep.yield r)) (fun b s1 => ∃ env1 M1 H1 μ1, Inv X pins σ H1 s1 ∧ GotB p σ H env μ env1 M1 H1 μ1 ∧ P b env1 M1) X.xe s
theorem jts_nil : JTs p X [] (fun env M => .ok true env M) := fun pins s σ H env M μ P I r o => wpAny_tests_nil ⟨env, M, H, μ, I, GotB.refl r, o⟩
theorem jts_one {c : Expr} {fc : Ev} (h : JT p X c (tst fc)) : JTs p X [c] (fun env M => (tst fc env M).bind fun t env M => if t then .ok true env M else .ok false env M) := fun pins s σ H env M μ P I r o => by
  refine wpAny_tests_one (thn (h pins s σ H env M μ _ I r (Out.bind o)) fun b s1 ⟨env1, M1, H1, μ1, I1, g, q⟩ => ⟨env1, M1, H1, μ1, I1, g, ?_⟩)
  cases b <;> exact q
/-- the loop over a clause -/
theorem clause_go {C tg iter : Expr} {ifs : List Expr} {k : Nat} {ft : D → Env → Mem → Res Unit} {fts : Env → Mem → Res Bool} {fr : List D → Env → Mem → Res (List D)} {it : Addr} {fp : List Addr} {tn : Nat → Heap → Prop} {J : It} {ds : List D} {S : List Addr} {P : List D → Env → Mem → Prop}
    (hK : p.K = X.K) (hc : X.calm = true) (hxe : X.xe = fun _ _ => False) (hC : isComp C = true) (hk : (clausesOf C)[k]? = some ⟨tg, iter, ifs, 0⟩) (hn : NextOk C k X.env) (hg : JG p X tg ft) (ht : JTs p X ifs fts) (hr : JK p X AO C k fr)
    (T : Turn X.prog X.w X.K tg J fp it tn) (hp : ∀ a ∈ S, (∃ u, H a = some u) ∧ a ∉ μ ∧ ¬ Owned env σ a) (hS : Dd ∉ S) (ys : Ys p.w p.K J ds H μ S)
    (hfp : ∀ (σ' : L2.St) (H' : Hp) (s' : Shared), Inv X pins σ' H' s' → (∀ b ∈ fp, H' b = none) → ∀ b ∈ fp, FpOk X pins H' b) (I : Inv X pins σ H s) (st : tn 0 s.heap) (hf : ∀ b ∈ fp, H b = none) (a : AccAt p AO Dd acc env M μ σ H) (o : OutK (goCl ft fts fr ds acc env M) P) :
    codeAny (model X.prog X.w) X.A (.compLoop C k (.ref it) (.ref Dd) X.env) (fun r s' => match r with
      | .ok _ => AccPost p X AO pins Dd env μ σ H P s'
      | .error _ => False) s := by
  have was := a.was
  refine loop_go hC hk hn (fun n s' => ∃ i σ' env' M' μ' H' acc', Inv X pins σ' H' s' ∧ tn i s'.heap ∧ (∀ b ∈ fp, H' b = none) ∧ AccAt p AO Dd acc' env' M' μ' σ' H' ∧ Ext env μ σ (hid H Dd) env' μ' σ' (hid H' Dd) ∧ n = ds.length - i ∧ i ≤ ds.length ∧ OutK (goCl ft fts fr (ds.drop i) acc' env' M') P)
    ?_ ds.length ⟨0, σ, env, M, μ, H, acc, I, st, hf, a, Ext.refl, rfl, Nat.zero_le _, by simpa using o⟩
  rintro n s1 ⟨i, σ1, env1, M1, μ1, H1, acc1, I1, st1, hf1, a1, x1, rfl, hi, o1⟩
  have kept : Kept S H H1 := by
    refine ⟨fun b hb => ?_, fz_of_hid x1 was⟩
    obtain ⟨⟨u, hu⟩, n1, n2⟩ := hp b hb
    have hbd : b ≠ Dd := fun z => hS (z ▸ hb)
    have := x1.keep b u (by rw [hid_ne hbd]; exact hu) n1 n2
    rw [hid_ne hbd] at this
    rw [this, hu]
  by_cases hlt : i < ds.length
  · have hd : ds[i]? = some ds[i] := List.getElem?_eq_getElem hlt
    rw [List.drop_eq_getElem_cons hlt] at o1
    have o1 := OutK.bind (show OutK ((ft ds[i] env1 M1).bind _) P from o1)
    refine thnF (T.item X rfl rfl rfl hc i pins s1 σ1 H1 (fun _ _ => False) I1 (hfp _ _ _ I1 hf1) st1 (ys.go i H1 kept hlt)) fun r s2 ⟨u, hr2, h2⟩ => ?_
    subst hr2
    refine thnF h2 fun _ s3 ⟨x, H3, I3, r3, y3, st3, hf3⟩ => ?_
    obtain ⟨sm, he⟩ := ys.yld i H1 x H3 _ kept hd y3
    have rel3 := a1.rel.grow sm
    have a3 := a1.step rel3 (Ext.grow sm)
    have x3 := x1.trans ((Ext.grow sm : Ext env1 μ1 σ1 H1 env1 μ1 σ1 H3).hide a1.nmu a1.nown)
    have I3' := I3.pinned (hfp _ _ _ I3 hf3) (T.obj _ _ st3)
    have he1 : Enc p.w p.K H3 μ1 ds[i] x := he.mono (FzE.refl _) x1.mu
    have xe : ∀ {α : Type} {t : Sem α} {Q : α → Shared → Prop} {s' : Shared} {E : Value → Shared → Prop}, wpAny (model X.prog X.w) X.A t Q X.xe s' → wpAny (model X.prog X.w) X.A t Q E s' := fun {α t Q s' E} h => by
      rw [hxe] at h; exact thnF h fun _ _ q => q
    refine thn (xe (hg.run _ s3 σ1 H3 x u (fun σ4 H4 => ∃ env4 M4 μ4, GotT p σ1 H3 env1 μ1 env4 M4 σ4 H4 μ4 ∧ OutK ((fts env4 M4).bind fun b env M => if b then (fr acc1 env M).bind fun acc env M => goCl ft fts fr (ds.drop (i + 1)) acc env M else goCl ft fts fr (ds.drop (i + 1)) acc1 env M) P) I3' r3
      ⟨env1, M1, μ1, ds[i], rel3, he1, o1.out.imp fun _ env4 M4 q σ4 H4 μ4 g => ⟨env4, M4, μ4, g, q⟩⟩)) fun _ s4 ⟨σ4, H4, I4, env4, M4, μ4, g4, o4⟩ => ?_
    have a4 := a3.step g4.rel g4.ext
    have x4 := x3.trans (g4.ext.hide a3.nmu a3.nown)
    refine thn (xe (ht _ s4 σ4 H4 env4 M4 μ4 _ I4 g4.rel (OutK.bind o4).out)) fun b s5 ⟨env5, M5, H5, μ5, I5, g5, o5⟩ => ?_
    have a5 := a4.step g5.rel g5.ext
    have x5 := x4.trans (g5.ext.hide a4.nmu a4.nown)
    have fin : ∀ {σ' : L2.St} {H' : Hp} {env' : Env} {M' : Mem} {μ' : List Addr} {acc' : List D} {s' : Shared}, Inv X (pins ++ pinsAt fp s3.heap) σ' H' s' → AccAt p AO Dd acc' env' M' μ' σ' H' → Ext env μ σ (hid H Dd) env' μ' σ' (hid H' Dd) → OutK (goCl ft fts fr (ds.drop (i + 1)) acc' env' M') P →
        ∃ m, m < ds.length - i ∧ ∃ i σ' env' M' μ' H' acc', Inv X pins σ' H' s' ∧ tn i s'.heap ∧ (∀ b ∈ fp, H' b = none) ∧ AccAt p AO Dd acc' env' M' μ' σ' H' ∧ Ext env μ σ (hid H Dd) env' μ' σ' (hid H' Dd) ∧ m = ds.length - i ∧ i ≤ ds.length ∧ OutK (goCl ft fts fr (ds.drop i) acc' env' M') P := fun {σ' H' env' M' μ' acc' s'} I' a' x' o' => by
      have pin' : ∀ b ∈ fp, ∀ o, s3.heap.get? b = some o → s'.heap.get? b = some o ∧ H' b = none := fun b hb o e =>
        let z := I'.pin (b, o) (List.mem_append_right _ (List.mem_append_right _ (mem_pinsAt hb e)))
        ⟨z.1, z.2.1⟩
      refine ⟨ds.length - (i + 1), by omega, i + 1, σ', env', M', μ', H', acc', I'.unpinned, T.keep _ _ _ st3 fun b hb o e => (pin' b hb o e).1, fun b hb => ?_, a', x', rfl, by omega, o'⟩
      obtain ⟨o, e, _⟩ := T.obj _ _ st3 b hb
      exact (pin' b hb o e).2
    cases b with
    | false =>
      simp only [Bool.false_eq_true, if_false] at o5 ⊢
      exact fin I5 a5 x5 o5
    | true =>
      simp only [if_true] at o5 ⊢
      refine RestW.mono (hr _ s5 σ4 H5 env5 M5 μ5 Dd acc1 (fun acc env M => OutK (goCl ft fts fr (ds.drop (i + 1)) acc env M) P) _ I5 a5 (OutK.bind o5)) fun s6 ⟨acc6, env6, M6, μ6, σ6, H6, I6, a6, x6, o6⟩ => ?_
      exact fin I6 a6 (x5.trans x6) o6
  · have e : i = ds.length := by omega
    subst e
    rw [List.drop_length] at o1
    refine thnF (T.done X rfl rfl rfl hc _ pins s1 σ1 H1 (fun _ _ => False) I1 (hfp _ _ _ I1 hf1) st1 (ys.stop _ H1 kept (Nat.le_refl _))) fun r s2 ⟨hr2, I2⟩ => ?_
    subst hr2
    exact ⟨acc1, env1, M1, μ1, σ1, H1, I2, a1, x1, o1⟩
/-- what is built changes -/
theorem AccAt.put {o : HO} {ob : Ob} {acc' : List D} (a : AccAt p AO Dd acc env M μ σ H) (e : AO acc' = some ob) (h : ObAt p.w p.K (upd H Dd o) μ ob Dd) : AccAt p AO Dd acc' env M μ σ (upd H Dd o) := by
  have c : Chg Dd H (upd H Dd o) := .upd a.was
  have at' : ∀ {o : Ob} {b : Addr}, b ≠ Dd → ObAt p.w p.K H μ o b → ObAt p.w p.K (upd H Dd _) μ o b := fun {o b} hb h => h.mono c.fz (fun _ _ z => z) (upd_ne hb)
  have r := a.rel
  refine ⟨⟨r.len, fun i d h => ?_, fun i o h => ?_, fun i o h => ?_, fun j o h => ?_, r.mlen, r.nd, r.sep⟩, ⟨ob, e, h⟩, a.nmu, a.nh⟩
  · obtain ⟨v, x, y⟩ := r.val i d h
    exact ⟨v, x, y.mono c.fz fun _ _ z => z⟩
  · obtain ⟨b, x, y, z⟩ := r.own i o h
    exact ⟨b, x, at' (fun q => a.nh (.inl ⟨i, o, h, q ▸ x⟩)) y, z⟩
  · obtain ⟨b, x, y, z, f⟩ := r.lck i o h
    exact ⟨b, x, at' (fun q => a.nh (.inr ⟨i, o, h, q ▸ x⟩)) y, z, f⟩
  · obtain ⟨b, x, y⟩ := r.mem j o h
    exact ⟨b, x, at' (fun q => a.nmu (q ▸ List.mem_of_getElem? x)) y⟩
abbrev AOl : List D → Option Ob := fun acc => some (.lst acc)
theorem jk_list {elt : Expr} {gens : List Comprehension} {scope : Scope} {pos : Pos} {k : Nat} {fe : Ev} (hxe : X.xe = fun _ _ => False) (hk1 : gens[k + 1]? = none) (he : JE p X elt fe) : JK p X AOl (.ListComp elt gens scope pos) k (emitE fe) := by
  intro pins s σ H env M μ Dd acc P E I a o
  unfold RestW
  rw [show (clausesOf (.ListComp elt gens scope pos))[k + 1]? = none from hk1]
  show wpAny _ _ (eval elt X.env >>= fun x => _) _ _ _
  have xe : ∀ {α : Type} {t : Sem α} {Q : α → Shared → Prop} {s' : Shared} {E : Value → Shared → Prop}, wpAny (model X.prog X.w) X.A t Q X.xe s' → wpAny (model X.prog X.w) X.A t Q E s' := fun {α t Q s' E} h => by
    rw [hxe] at h; exact thnF h fun _ _ q => q
  refine wpAny_bind (thn (xe (JE.go he I a.rel (OutK.bind o).out)) fun u s1 ⟨v, r1, env1, M1, H1, μ1, I1, rv, g, o1⟩ => ?_)
  split at o1
  · rename_i d e1
    split at o1
    · rename_i hz
      obtain ⟨H2, I2, rel2, x2, hd⟩ := g.enc I1 e1
      have a2 := a.step rel2 x2
      obtain ⟨ob, eo, hob⟩ := a2.ob
      cases eo
      obtain ⟨vs, h1, h2⟩ := hob
      have hz : acc.length < sizeLine := by simpa using hz
      refine wpAny_bind (app_ok I2 h1 (by rw [← h2.length]; exact hz) rv fun s3 I3 => wpAny_pure ?_)
      have c : Chg Dd H2 (upd H2 Dd (.lst (vs ++ [v]))) := .upd ⟨_, h1, fun z => z⟩
      refine ⟨acc ++ [d], env1, M1, μ1, σ, _, I3, a2.put rfl ⟨_, upd_same, Encs.append (h2.mono c.fz fun _ _ z => z) (.cons (hd.mono c.fz fun _ _ z => z) .nil)⟩, ?_, o1⟩
      rw [hid_upd]
      exact x2.hide a.nmu a.nown
    · exact o1.elim
  · exact o1.elim
theorem jk_more {C tg iter : Expr} {ifs : List Expr} {k : Nat} {fi : Env → Mem → Res (List D × Option Nat)} {ft : D → Env → Mem → Res Unit} {fts : Env → Mem → Res Bool} {fr : List D → Env → Mem → Res (List D)} (hK : p.K = X.K) (hc : X.calm = true) (hxe : X.xe = fun _ _ => False) (hC : isComp C = true) (hk : (clausesOf C)[k + 1]? = some ⟨tg, iter, ifs, 0⟩) (hn : NextOk C (k + 1) X.env)
    (hi : JI p X tg iter fi) (hg : JG p X tg ft) (ht : JTs p X ifs fts) (hr : JK p X AO C (k + 1) fr) : JK p X AO C k (fun acc env M => (fi env M).bind fun l env M => if wasOwn env l.2 then .stuck else goCl ft fts fr l.1 acc env M) := by
  intro pins s σ H env M μ Dd acc P E I a o
  unfold RestW
  rw [hk]
  have xe : ∀ {α : Type} {t : Sem α} {Q : α → Shared → Prop} {s' : Shared} {E : Value → Shared → Prop}, wpAny (model X.prog X.w) X.A t Q X.xe s' → wpAny (model X.prog X.w) X.A t Q E s' := fun {α t Q s' E} h => by
    rw [hxe] at h; exact thnF h fun _ _ q => q
  refine thn (xe (hi.run pins s σ H (fun J H1 => ∃ (l : List D × Option Nat) (env1 : Env) (M1 : Mem) (μ1 S : List Addr), GotB p σ H env μ env1 M1 H1 μ1 ∧ Ys p.w p.K J l.1 H1 μ1 S ∧ Prot env1 μ1 σ H1 l.2 S ∧ (∀ a ∈ S, Held env1 σ a ∨ H a = none) ∧ OutK (if wasOwn env1 l.2 then .stuck else goCl ft fts fr l.1 acc env1 M1) P) I
    ⟨env, M, μ, a.rel, (OutK.bind o).out.imp fun l env1 M1 q J H1 μ1 S g ys pr nd => ⟨l, env1, M1, μ1, S, g, ys, pr, nd, q⟩⟩)) fun xv s1 hx => thn (xe hx) fun itv s2 h2 => ?_
  obtain ⟨it, fp, tn, J, H2, e, I2, T, st2, f2, l, env1, M1, μ1, S, g, ys, pr, nd, o2⟩ := h2
  subst e
  split at o2
  · exact o2.elim
  · rename_i hw
    have a2 := a.step g.rel g.ext
    have nown : ∀ b ∈ S, ¬ Owned env1 σ b := fun b hb z => by
      obtain ⟨_, _, q⟩ := pr b hb
      obtain ⟨i, ob, e1, e2, _⟩ := q z
      rw [e1] at hw
      simp [wasOwn, e2] at hw
    have hp : ∀ b ∈ S, (∃ u, H2 b = some u) ∧ b ∉ μ1 ∧ ¬ Owned env1 σ b := fun b hb => ⟨(pr b hb).1, (pr b hb).2.1, nown b hb⟩
    have hS : Dd ∉ S := fun hb => by
      rcases nd Dd hb with z | z
      · exact a2.nh z
      · obtain ⟨u, hu, _⟩ := a.was
        rw [z] at hu; cases hu
    have lp := clause_go (P := P) (s := s2) (acc := acc) hK hc hxe hC hk hn hg ht hr T hp hS ys (fun σ' H' s' I' hn b hb => ⟨hn b hb, (f2 b hb).2⟩) I2 st2 (fun b hb => (f2 b hb).1) a2 o2
    refine start_go hC hk (codeAny_mono lp fun r s' hr => ?_) (T.self X.A 0 _ _ _ st2 (codeAny_mono lp fun r s' hr => ?_))
    · cases r with
      | ok f => exact AccPost.shift hr (g.ext.hide a.nmu a.nown)
      | error e => exact hr
    · cases r with
      | ok f => exact AccPost.shift hr (g.ext.hide a.nmu a.nown)
      | error e => exact hr
end
end Iv

/-! Iv: list comprehensions. -/
namespace Iv
open PySem PySem.Spec PyProof.Rows L2

def Pm.blk (p : Pm) : Pm := ⟨p.w, p.K, p.xr, fun _ _ _ _ => False⟩
def NoOwn (env : Env) : Prop := ∀ (i : Nat) (o : Ob), env[i]? ≠ some (some (.own o))
section
variable {w : World} {K : PySem.W.Frag} {env env' env1 : Env} {M M' : Mem} {μ μ' : List Addr} {σ σ' : L2.St} {H H' : Hp}
theorem NoOwn.not (n : NoOwn env) (b : Addr) : ¬ Owned env σ b := fun ⟨i, o, e, _⟩ => n i o e
theorem NoOwn.sk (n : NoOwn env) (k : SK env env') (hl : env'.length = env.length) : env' = env := by
  apply List.ext_getElem?
  intro i
  rcases k i with e | ⟨o, _, e, _⟩
  · exact e
  · exact absurd e (n i o)
theorem wipeE_len (env : Env) : ∀ l : List Nat, (wipeE env l).length = env.length
  | [] => rfl
  | i :: is => by unfold wipeE; rw [List.length_set, wipeE_len env is]
theorem wipeE_some {i : Nat} {x : SV} : ∀ {l : List Nat}, (wipeE env l)[i]? = some (some x) → env[i]? = some (some x) ∧ i ∉ l
  | [], h => ⟨h, by simp⟩
  | v :: vs, h => by
    unfold wipeE at h
    by_cases hi : v = i
    · subst hi
      by_cases hv : v < (wipeE env vs).length
      · rw [List.getElem?_set_self hv] at h; cases h
      · rw [List.getElem?_eq_none (by simpa using hv)] at h; cases h
    · rw [List.getElem?_set_ne hi] at h
      obtain ⟨h1, h2⟩ := wipeE_some h
      exact ⟨h1, by simp only [List.mem_cons, not_or]; exact ⟨fun e => hi e.symm, h2⟩⟩
theorem blk_some {own : List Nat} {i : Nat} {x : SV} (h : (blk own env)[i]? = some (some x)) : i ∉ own ∧ ((∃ d, x = .val d ∧ env[i]? = some (some (.val d))) ∨ ∃ o, x = .lck o ∧ (env[i]? = some (some (.own o)) ∨ env[i]? = some (some (.lck o)))) := by
  obtain ⟨h1, h2⟩ := wipeE_some h
  refine ⟨h2, ?_⟩
  rw [List.getElem?_map] at h1
  cases e : env[i]? with
  | none => rw [e] at h1; cases h1
  | some y =>
    rw [e] at h1
    cases y with
    | none => cases h1
    | some y =>
      cases y with
      | val d => cases h1; exact .inl ⟨d, rfl, rfl⟩
      | own o => cases h1; exact .inr ⟨o, rfl, .inl rfl⟩
      | lck o => cases h1; exact .inr ⟨o, rfl, .inr rfl⟩
theorem blk_noOwn (own : List Nat) : NoOwn (blk own env) := fun i o e => by
  rcases (blk_some e).2 with ⟨d, h, _⟩ | ⟨d, h, _⟩ <;> cases h
theorem blk_len (own : List Nat) : (blk own env).length = env.length := by unfold blk; rw [wipeE_len, List.length_map]
theorem Rel.lend (own : List Nat) (r : Rel w K env M μ σ H) : Rel w K (blk own env) M μ σ H := by
  refine ⟨(blk_len own).trans r.len, fun i d e => ?_, fun i o e => absurd e (blk_noOwn own i o), fun i o e => ?_, r.mem, r.mlen, r.nd, fun i i' o o' a e => absurd e (blk_noOwn own i o)⟩
  · rcases (blk_some e).2 with ⟨d', h, h2⟩ | ⟨d', h, _⟩
    · cases h; exact r.val i d h2
    · cases h
  · rcases (blk_some e).2 with ⟨d', h, h2⟩ | ⟨d', h, h2⟩
    · cases h
    · cases h
      rcases h2 with h2 | h2
      · obtain ⟨a, q1, q2, q3⟩ := r.own i o h2
        exact ⟨a, q1, q2, q3, NoOwn.not (blk_noOwn own) a⟩
      · obtain ⟨a, q1, q2, q3, q4⟩ := r.lck i o h2
        exact ⟨a, q1, q2, q3, NoOwn.not (blk_noOwn own) a⟩
/-- slots that say nothing may hold anything -/
theorem Rel.slots (r : Rel w K env M μ σ H) (n : NoOwn env) (hl : σ'.length = σ.length) (h : ∀ (i : Nat) (x : SV), env[i]? = some (some x) → σ'[i]? = σ[i]?) : Rel w K env M μ σ' H := by
  refine ⟨r.len.trans hl.symm, fun i d e => ?_, fun i o e => absurd e (n i o), fun i o e => ?_, r.mem, r.mlen, r.nd, fun i i' o o' a e => absurd e (n i o)⟩
  · rw [h i _ e]; exact r.val i d e
  · rw [h i _ e]
    obtain ⟨a, q1, q2, q3, q4⟩ := r.lck i o e
    exact ⟨a, q1, q2, q3, n.not a⟩
/-- back where it was evaluated -/
theorem Rel.back {env2 : Env} {σ2 : L2.St} (r : Rel w K env M μ σ H) (r2 : Rel w K env2 M' μ' σ2 H') (hpre : ∃ ν, μ' = μ ++ ν ∧ ∀ a ∈ ν, H a = none) (hk : ∀ b o, H b = some o → b ∉ μ → H' b = some o) (hf : FzE H H') (hd : ∀ b, H' b = none → H b = none) :
    Rel w K env M' μ' σ H' ∧ Ext env μ σ H env μ' σ H' := by
  have x : Ext env μ σ H env μ' σ H' := ⟨hpre, fun b o h n _ => hk b o h n, fun _ h => .inl h, fun _ _ h => ⟨h, rfl⟩, hf, hd⟩
  have at' : ∀ {o : Ob} {a : Addr}, ObAt w K H μ o a → a ∉ μ → ObAt w K H' μ' o a ∧ a ∉ μ' := fun {o a} h n => by
    obtain ⟨u, e, _⟩ := h.some
    exact ⟨h.mono hf x.mu ((hk a u e n).trans e.symm), x.notMu e n⟩
  refine ⟨⟨r.len, fun i d e => ?_, fun i o e => ?_, fun i o e => ?_, r2.mem, r2.mlen, r2.nd, r.sep⟩, x⟩
  · obtain ⟨v, a, b⟩ := r.val i d e
    exact ⟨v, a, b.mono hf x.mu⟩
  · obtain ⟨a, b, c, d⟩ := r.own i o e
    obtain ⟨q1, q2⟩ := at' c d
    exact ⟨a, b, q1, q2⟩
  · obtain ⟨a, b, c, d, f⟩ := r.lck i o e
    obtain ⟨q1, q2⟩ := at' c d
    exact ⟨a, b, q1, q2, f⟩
theorem Ys.grow {J : It} {ds : List D} {S : List Addr} (y : Ys w K J ds H μ S) (sm : Same H H') (h : ∀ a ∈ S, ∃ u, H a = some u) : Ys w K J ds H' μ S := by
  have k : ∀ {H2 : Hp}, Kept S H' H2 → Kept S H H2 := fun {H2} k => ⟨fun a ha => by
    obtain ⟨u, e⟩ := h a ha
    rw [k.1 a ha, sm _ _ e, e], (FzE.of_same sm).trans k.2⟩
  exact ⟨fun i H2 q => y.go i H2 (k q), fun i H2 x H3 d q => y.yld i H2 x H3 d (k q), fun i H2 q => y.stop i H2 (k q)⟩
theorem wipe_at {σ : L2.St} {i : Nat} {l : List Nat} (h : i ∉ l) : (wipe σ l)[i]? = σ[i]? := wipe_out h
end
section
variable {p : Pm} {X : Cx} {σ : L2.St} {H : Hp} {env : Env} {M : Mem} {μ : List Addr} {pins : List (Addr × Obj)} {s : Shared}
theorem lc_go {elt tg iter : Expr} {ifs : List Expr} {rest : List Comprehension} {scope : Scope} {own : List (PySem.Str × Nat)} {pos pos' : Pos} {fi : Env → Mem → Res (List D × Option Nat)} {ft : D → Env → Mem → Res Unit} {fts : Env → Mem → Res Bool} {fr : List D → Env → Mem → Res (List D)} {use : Option (Value → Sem Unit)} {Qf : Value → Shared → Prop} {P : List D → Env → Mem → Prop}
    (hK : p.K = X.K) (hc : X.calm = true) (hN : X.N.Nodup) (I : Inv X pins σ H s) (r : Rel p.w p.K env M μ σ H) (hi : JI p X tg iter fi) (ok : BlkOk X.N X.env.scope scope own)
    (hn : ∀ env', NextOk (.ListComp elt (⟨tg, iter, ifs, 0⟩ :: rest) scope pos) 0 env')
    (hg : ∀ (s : Shared) (H : Hp) (C : Addr) (cl : List (PySem.Str × Addr)) (fp : List Addr), JG p.blk (X.blk s H scope (compEnvC scope cl C X.env) fp) tg ft) (ht : ∀ (s : Shared) (H : Hp) (C : Addr) (cl : List (PySem.Str × Addr)) (fp : List Addr), JTs p.blk (X.blk s H scope (compEnvC scope cl C X.env) fp) ifs fts)
    (hr : ∀ (s : Shared) (H : Hp) (C : Addr) (cl : List (PySem.Str × Addr)) (fp : List Addr), JK p.blk (X.blk s H scope (compEnvC scope cl C X.env) fp) AOl (.ListComp elt (⟨tg, iter, ifs, 0⟩ :: rest) scope pos) 0 fr) (hs : ∀ x, foldedSetIterable iter X.env x = pure x)
    (o : OutK ((fi (blk (own.map (·.2)) env) M).bind fun l env M => if wasOwn env l.2 then .stuck else goCl ft fts fr l.1 [] env M) P)
    (hRR : ∀ (Da C : Addr) (s' : Shared) m (acc : List D) (M' : Mem) (H' : Hp) (μ' : List Addr), Inv X pins σ H' s' → Got p σ H env μ (.own (.lst acc)) env M' (.ref Da) H' μ' → (∃ env', P acc env' M') → s'.heap.Ns C m → FpOk X pins H' C → compPost (model X.prog X.w) X.A X.xe use Qf (.ref Da) C (.ok .next) s') :
    wpAny (model X.prog X.w) X.A (comprehension (.ListComp elt (⟨tg, iter, ifs, 0⟩ :: rest) scope pos) scope X.env pos' (newList []) false (eval iter X.env) use) Qf X.xe s := by
  have hfree : ∀ y ∈ scope.names, y.2 = .free → ∃ c, X.env.cells.lookup y.1 = some c := fun y hy e => by
    rcases ok.free y hy e with k | k
    · exact I.ok.has _ (.inl k)
    · exact I.ok.has _ (.inr k)
  have relb := r.lend (own.map (·.2))
  have nob : NoOwn (blk (own.map (·.2)) env) := blk_noOwn _
  generalize hbe : blk (own.map (·.2)) env = be at relb nob o
  refine wpAny_comprehension_free (use := use) rfl hs (closure_ok hfree) ok.kind (fun y hy e => by rw [ok.uniq y hy, e])
    (thn (hi.run pins s σ H (fun J H1 => ∃ (l : List D × Option Nat) (env1 : Env) (M1 : Mem) (μ1 S : List Addr), GotB p σ H be μ env1 M1 H1 μ1 ∧ Ys p.w p.K J l.1 H1 μ1 S ∧ Prot env1 μ1 σ H1 l.2 S ∧ OutK (if wasOwn env1 l.2 then .stuck else goCl ft fts fr l.1 [] env1 M1) P) I
      ⟨be, M, μ, relb, (OutK.bind o).out.imp fun l env1 M1 q J H1 μ1 S g ys pr nd => ⟨l, env1, M1, μ1, S, g, ys, pr, q⟩⟩) fun xv s1 hx => thn hx fun itv s2 h2 => ?_)
  obtain ⟨it, fp, tn, J, H2, e, I2, T, st2, f2, l, env1, M1, μ1, S, g, ys, pr, o2⟩ := h2
  subst e
  have hbe1 : env1 = be := nob.sk g.sk (g.rel.len.trans relb.len.symm)
  subst hbe1
  refine wpAny_newObj_type (newEnv_comp ?_) (by show 0 ≤ sizeLine; decide)
  generalize hD : s2.heap.objs.size = Dd
  have hDn : H2 Dd = none := I2.hok.fresh (Nat.le_of_eq hD)
  generalize hs3 : ({ s2 with heap := s2.heap.push { cls := .type "list", data := .seq ([] : List Value).toArray } } : Shared) = s3
  have I3 : Inv X pins σ (upd H2 Dd (.lst [])) s3 := by
    rw [← hs3]
    refine I2.laid (t' := s2.toks) (fun b o e => Heap.get?_push_of_some _ e) (Nat.le_of_eq hD) ⟨Nat.zero_le _, [], 0, .nil, ?_⟩
    rw [← hD]
    exact Heap.get?_push_size _ rfl
  have h3 : s3.heap = s2.heap.push { cls := .type "list", data := .seq ([] : List Value).toArray } := by rw [← hs3]
  have sz : ∀ b ∈ fp, b < s2.heap.objs.size := fun b hb => by
    obtain ⟨o, e, _⟩ := T.obj _ _ st2 b hb
    exact Heap.lt_size e
  have f3 : ∀ b ∈ fp, FpOk X pins (upd H2 Dd (.lst [])) b ∧ b < s3.heap.objs.size := fun b hb => by
    have hlt := sz b hb
    refine ⟨⟨?_, (f2 b hb).2⟩, by rw [h3, Heap.size_push]; exact Nat.lt_succ_of_lt hlt⟩
    rw [upd_ne (by rw [← hD]; exact Nat.ne_of_lt hlt)]
    exact (f2 b hb).1
  have st3 : tn 0 s3.heap := T.keep _ _ _ st2 fun b _ o e => by rw [h3]; exact Heap.get?_push_of_some _ e
  have I4 := block_start I3 ok hN f3
  have pg := hg s3 (upd H2 Dd (.lst [])) s3.heap.objs.size (cellsFrom (s3.heap.objs.size + 1) scope.names (cloFrom X.env.cells scope.names [])) fp
  have pt := ht s3 (upd H2 Dd (.lst [])) s3.heap.objs.size (cellsFrom (s3.heap.objs.size + 1) scope.names (cloFrom X.env.cells scope.names [])) fp
  have pr' := hr s3 (upd H2 Dd (.lst [])) s3.heap.objs.size (cellsFrom (s3.heap.objs.size + 1) scope.names (cloFrom X.env.cells scope.names [])) fp
  show codeAny _ _ (.compStart (.ListComp elt (⟨tg, iter, ifs, 0⟩ :: rest) scope pos) 0 (.ref it) (.ref Dd) (compEnvC scope (cellsFrom (s3.heap.objs.size + 1) scope.names (cloFrom X.env.cells scope.names [])) s3.heap.objs.size X.env)) (compPost (model X.prog X.w) X.A X.xe use Qf (.ref Dd) s3.heap.objs.size) { s3 with heap := pushCells (s3.heap.push { cls := .type "dict", data := .dict #[] }) scope.names }
  have sm : Same H2 (upd H2 Dd (.lst [])) := same_new hDn
  generalize hce : compEnvC scope (cellsFrom (s3.heap.objs.size + 1) scope.names (cloFrom X.env.cells scope.names [])) s3.heap.objs.size X.env = ce at I4 pg pt pr' ⊢
  have cL : ce.locals = s3.heap.objs.size := by subst hce; rfl
  have nfp : ∀ b ∈ fp, (upd H2 Dd (.lst [])) b = none := fun b hb => (f3 b hb).1.1
  have hat : (upd H2 Dd (.lst [])) Dd = some (.lst []) := upd_same
  generalize hH3 : upd H2 Dd (.lst []) = H3 at I3 I4 pg pt pr' nfp f3 sm hat
  generalize hs4 : ({ s3 with heap := pushCells (s3.heap.push { cls := .type "dict", data := .dict #[] }) scope.names } : Shared) = s4 at I4 ⊢
  have st4 : tn 0 s4.heap := T.keep _ _ _ st3 fun b _ o e => by rw [← hs4]; exact pushCells_keeps _ _ _ _ (Heap.get?_push_of_some _ e)
  have stat : ∀ (σ' : L2.St) (H' : Hp) (s' : Shared), Inv (X.blk s3 H3 scope ce fp) [] σ' H' s' → (∀ b ∈ fp, H' b = none) → ∀ b ∈ fp, FpOk (X.blk s3 H3 scope ce fp) [] H' b := fun σ' H' s' I' hn b hb =>
    ⟨hn b hb, (I'.ok.exf b hb).1, I'.ok.exfs b hb, .inl hb, fun x c e => (I'.ok.exf b hb).2 x c e, fun p hp => absurd (show p ∈ ([] : List (Addr × Obj)) ++ [] from hp) (by simp)⟩
  have wslot : ∀ (i : Nat) (x : SV), env1[i]? = some (some x) → (wipe σ (own.map (·.2)))[i]? = σ[i]? := fun i x e => by
    rw [← hbe] at e
    exact wipe_at (blk_some e).1
  have relw : Rel p.w p.K env1 M1 μ1 (wipe σ (own.map (·.2))) H3 := (g.rel.grow sm).slots nob (wipe_length _ _) wslot
  obtain ⟨nm, nh⟩ := relw.new (a := Dd) |> fun _ => (g.rel.new hDn)
  have acc0 : AccAt p.blk AOl Dd [] env1 M1 μ1 (wipe σ (own.map (·.2))) H3 := by
    refine ⟨relw, ⟨.lst [], rfl, [], hat, .nil⟩, nm, ?_⟩
    rintro (⟨i, o, e1, _⟩ | ⟨i, o, e1, e2⟩)
    · exact nob i o e1
    · rw [wslot i _ e1] at e2
      exact nh (.inr ⟨i, o, e1, e2⟩)
  split at o2
  · exact o2.elim
  have hSu : ∀ a ∈ S, ∃ u, H2 a = some u := fun a ha => (pr a ha).1
  have lp := clause_go (p := p.blk) (X := X.blk s3 H3 scope ce fp) (P := P) (s := s4) (acc := []) (k := 0) (C := .ListComp elt (⟨tg, iter, ifs, 0⟩ :: rest) scope pos) (iter := iter) hK hc rfl rfl rfl (hn _) pg pt pr' T
    (fun a ha => ⟨by obtain ⟨u, hu⟩ := hSu a ha; exact ⟨u, sm _ _ hu⟩, (pr a ha).2.1, nob.not a⟩) (fun hb => by obtain ⟨u, hu⟩ := hSu _ hb; rw [hDn] at hu; cases hu) (ys.grow sm hSu) stat I4 st4 nfp acc0 o2
  have loop : codeAny (model X.prog X.w) X.A (.compLoop (.ListComp elt (⟨tg, iter, ifs, 0⟩ :: rest) scope pos) 0 (.ref it) (.ref Dd) ce) (compPost (model X.prog X.w) X.A X.xe use Qf (.ref Dd) s3.heap.objs.size) s4 := by
    refine codeAny_mono lp fun r s6 hr => ?_
    cases r with
    | error e => exact hr.elim
    | ok f =>
      obtain ⟨acc1, env6, M6, μ6, σ6, H6, I6, a6, x6, q⟩ := hr
      have I7 : Inv X pins σ H6 s6 := I3.call' (ch := fp) I6.os I6.base I6.hok I6.bare fun b hb => ⟨(f3 b hb).1.2.2.2.1, (f3 b hb).1.2.1, (f3 b hb).1.2.2.2.2.1, (f3 b hb).1.2.2.2.2.2⟩
      have nC : H6 s3.heap.objs.size = none := by
        have z : H6 ce.locals = none := I6.free
        rw [cL] at z
        exact z
      obtain ⟨m, hn', _⟩ := I6.loc
      have hn' : s6.heap.Ns ce.locals m := hn'
      rw [cL] at hn'
      -- what lies between
      have hD0 : H Dd = none := g.ext.dom _ hDn
      have hid3 : ∀ b o, H2 b = some o → hid H3 Dd b = some o := fun b o e => by
        have hb : b ≠ Dd := fun z => by rw [z, hDn] at e; cases e
        rw [hid_ne hb]; exact sm _ _ e
      have keepO : ∀ b o, H b = some o → b ∉ μ → H6 b = some o := fun b o e n => by
        have e2 := g.ext.keep b o e n (nob.not b)
        have hb : b ≠ Dd := fun z => by rw [z, hDn] at e2; cases e2
        have := x6.keep b o (hid3 b o e2) (g.ext.notMu e n) (nob.not b)
        rwa [hid_ne hb] at this
      have fzO : FzE H H6 := fun b o e f => by
        have e2 := g.ext.fz b o e f
        have hb : b ≠ Dd := fun z => by rw [z, hDn] at e2; cases e2
        have := x6.fz b o (hid3 b o e2) f
        rwa [hid_ne hb] at this
      have domO : ∀ b, H6 b = none → H b = none := fun b e => by
        by_cases hb : b = Dd
        · rw [hb]; exact hD0
        · have := x6.dom b (by rw [hid_ne hb]; exact e)
          rw [hid_ne hb] at this
          exact g.ext.dom b (sm.free this)
      have preO : ∃ ν, μ6 = μ ++ ν ∧ ∀ a ∈ ν, H a = none := by
        obtain ⟨ν, e1, k1⟩ := g.ext.pre
        obtain ⟨ν', e2, k2⟩ := x6.pre
        refine ⟨ν ++ ν', by rw [e2, e1, List.append_assoc], fun a ha => ?_⟩
        rcases List.mem_append.mp ha with z | z
        · exact k1 a z
        · have := k2 a z
          by_cases hb : a = Dd
          · rw [hb]; exact hD0
          · rw [hid_ne hb] at this; exact g.ext.dom a (sm.free this)
      obtain ⟨relO, extO⟩ := r.back a6.rel preO keepO fzO domO
      obtain ⟨ob, eo, hob⟩ := a6.ob
      cases eo
      have zz := hRR Dd s3.heap.objs.size s6 m acc1 M6 H6 μ6 I7 ⟨relO, SK.refl _, ⟨Dd, rfl, hob, a6.nmu, (r.new hD0).2⟩, extO, fun a e => by cases e; exact hD0⟩ ⟨env6, q⟩ hn' (I3.fpOk (Nat.le_refl _) nC)
      cases use with
      | none => exact zz
      | some u => exact zz
  exact codeAny_compStart_list loop (T.self X.A 0 _ _ _ st4 loop)
/-- a list comprehension, whatever is done with it -/
def JLc (p : Pm) (X : Cx) (e : Expr) (f : Ev) : Prop := match e with
  | .ListComp elt (⟨tg, iter, ifs, 0⟩ :: rest) scope pos => ∀ (pins : List (Addr × Obj)) (s : Shared) (σ : L2.St) (H : Hp) (env : Env) (M : Mem) (μ : List Addr) (pos' : Pos) (use : Option (Value → Sem Unit)) (Qf : Value → Shared → Prop) (P : R → Env → Mem → Prop), Inv X pins σ H s → Rel p.w p.K env M μ σ H → Out p σ H env μ (f env M) P →
      (∀ (Da C : Addr) (s' : Shared) m (r : R) (M' : Mem) (H' : Hp) (μ' : List Addr), Inv X pins σ H' s' → Got p σ H env μ r env M' (.ref Da) H' μ' → P r env M' → s'.heap.Ns C m → FpOk X pins H' C → compPost (model X.prog X.w) X.A X.xe use Qf (.ref Da) C (.ok .next) s') →
      wpAny (model X.prog X.w) X.A (comprehension (.ListComp elt (⟨tg, iter, ifs, 0⟩ :: rest) scope pos) scope X.env pos' (newList []) false (eval iter X.env) use) Qf X.xe s
  | _ => True
theorem jlc_of {elt tg iter : Expr} {ifs : List Expr} {rest : List Comprehension} {scope : Scope} {own : List (PySem.Str × Nat)} {pos : Pos} {fi : Env → Mem → Res (List D × Option Nat)} {ft : D → Env → Mem → Res Unit} {fts : Env → Mem → Res Bool} {fr : List D → Env → Mem → Res (List D)}
    (hK : p.K = X.K) (hc : X.calm = true) (hN : X.N.Nodup) (hi : JI p X tg iter fi) (ok : BlkOk X.N X.env.scope scope own)
    (hn : ∀ env', NextOk (.ListComp elt (⟨tg, iter, ifs, 0⟩ :: rest) scope pos) 0 env')
    (hg : ∀ (s : Shared) (H : Hp) (C : Addr) (cl : List (PySem.Str × Addr)) (fp : List Addr), JG p.blk (X.blk s H scope (compEnvC scope cl C X.env) fp) tg ft) (ht : ∀ (s : Shared) (H : Hp) (C : Addr) (cl : List (PySem.Str × Addr)) (fp : List Addr), JTs p.blk (X.blk s H scope (compEnvC scope cl C X.env) fp) ifs fts)
    (hr : ∀ (s : Shared) (H : Hp) (C : Addr) (cl : List (PySem.Str × Addr)) (fp : List Addr), JK p.blk (X.blk s H scope (compEnvC scope cl C X.env) fp) AOl (.ListComp elt (⟨tg, iter, ifs, 0⟩ :: rest) scope pos) 0 fr) (hs : ∀ x, foldedSetIterable iter X.env x = pure x) :
    JLc p X (.ListComp elt (⟨tg, iter, ifs, 0⟩ :: rest) scope pos) (inBlk (own.map (·.2)) (fun env M => (fi env M).bind fun l env M => if wasOwn env l.2 then .stuck else goCl ft fts fr l.1 [] env M) (fun l => some (.own (.lst l)))) := by
  intro pins s σ H env M μ pos' use Qf P I r o hRR
  have o' : OutK ((fi (blk (own.map (·.2)) env) M).bind fun l env M => if wasOwn env l.2 then .stuck else goCl ft fts fr l.1 [] env M) (fun l _ M' => P (.own (.lst l)) env M') := by
    unfold inBlk at o
    simp only [] at o
    generalize ((fi (blk (own.map (·.2)) env) M).bind fun l env M => if wasOwn env l.2 = true then .stuck else goCl ft fts fr l.1 [] env M) = res at o ⊢
    cases res with
    | stuck => exact o
    | ok l e M' => exact o
    | exc x e M' => exact o
  exact lc_go hK hc hN I r hi ok hn hg ht hr hs o' fun Da C s' m acc M' H' μ' I' g ⟨_, q⟩ hn f => hRR Da C s' m _ M' H' μ' I' g q hn f
theorem JLc.alc {e : Expr} {f : Ev} (h : JLc p X e f) : JLc p X e (alcE f) := by
  unfold JLc at h ⊢
  split
  · intro pins s σ H env M μ pos' use Qf P I r o hRR
    refine h pins s σ H env M μ pos' use Qf (fun r env1 M1 => match r with | .own ob => P (.val (.ref M1.length)) env1 (M1 ++ [ob]) | _ => False) I r ((Out.bind o).imp fun r1 env1 M1 q => ?_) fun Da C s' m r1 M' H' μ' I' g q hn fp => ?_
    · cases r1 with
      | own ob => exact q
      | val d => exact q.elim
      | lnd i => exact q.elim
    · cases r1 with
      | own ob =>
        obtain ⟨a, ea, g2⟩ := g.alc
        cases ea
        exact hRR _ C s' m _ _ H' _ I' g2 q hn fp
      | val d => exact q.elim
      | lnd i => exact q.elim
  · trivial
/-- as a value -/
theorem je_lc {elt tg iter : Expr} {ifs : List Expr} {rest : List Comprehension} {scope : Scope} {pos : Pos} {f : Ev} (h : JLc p X (.ListComp elt (⟨tg, iter, ifs, 0⟩ :: rest) scope pos) f) : JE p X (.ListComp elt (⟨tg, iter, ifs, 0⟩ :: rest) scope pos) f := by
  refine JE.of fun pins s σ H Q env M μ I r o => ?_
  rw [eval_ListComp]
  refine h pins s σ H env M μ _ none _ _ I r o fun Da C s' m r1 M' H' μ' I' g q hn f => ⟨m, hn, fun h'' sb => ?_⟩
  obtain ⟨f0, f1, f2, f3, f4, f5⟩ := f
  exact ⟨.ref Da, H', I'.turned (t' := s'.toks) (fun b o hb e => (sb.2 b hb).trans e) f0 f1 f3 f4 f5, rfl, q _ _ _ g⟩
end
end Iv

/-! Iv: statements. -/
namespace Iv
open PySem PySem.Spec PyProof.Rows L2

/-- what stands behind a return -/
structure GotR (p : Pm) (σ : L2.St) (H : Hp) (env : Env) (μ : List Addr) (r : R) (env' : Env) (M' : Mem) (v : V) (σ' : L2.St) (H' : Hp) (μ' : List Addr) : Prop where
  rel : Rel p.w p.K env' M' μ' σ' H'
  ext : Ext env μ σ H env' μ' σ' H'
  rep : RRep p.w p.K [] μ' [] H' r v
  new : ∀ (o : Ob) (a : Addr), r = .own o → v = .ref a → Owned env σ a ∨ H a = none
  nl : ∀ i, r ≠ .lnd i
def PostX (p : Pm) (σ : L2.St) (H : Hp) (env : Env) (μ : List Addr) (D : Ends) : Flow → Env → Mem → Prop := fun fl env1 M1 =>
  match fl with
  | .next => ∀ σ1 H1 μ1, GotT p σ H env μ env1 M1 σ1 H1 μ1 → D.nx σ1 H1
  | .ret r => ∀ v σ1 H1 μ1, GotR p σ H env μ r env1 M1 v σ1 H1 μ1 → D.rt v H1
def tX (p : Pm) (f : Env → Mem → Res Flow) : TS := fun D σ H => ∃ env M μ, Rel p.w p.K env M μ σ H ∧ Out p σ H env μ (f env M) (PostX p σ H env μ D)
abbrev JS (p : Pm) (X : Cx) (st : Stmt) (f : Env → Mem → Res Flow) : Prop := PS X st (tX p f)
abbrev JSs (p : Pm) (X : Cx) (st : List Stmt) (f : Env → Mem → Res Flow) : Prop := PSs X st (tX p f)
section
variable {p : Pm} {X : Cx} {σ σ1 : L2.St} {H H1 : Hp} {env env1 : Env} {M M1 : Mem} {μ μ1 : List Addr} {pins : List (Addr × Obj)} {s : Shared} {pos : Pos}
theorem GotT.refl (r : Rel p.w p.K env M μ σ H) : GotT p σ H env μ env M σ H μ := ⟨r, Ext.refl⟩
/-- a later start -/
theorem PostX.shift {D : Ends} {fl : Flow} {env2 : Env} {M2 : Mem} (x : Ext env μ σ H env1 μ1 σ1 H1) (h : PostX p σ H env μ D fl env2 M2) : PostX p σ1 H1 env1 μ1 D fl env2 M2 := by
  cases fl with
  | next => exact fun σ2 H2 μ2 g => h σ2 H2 μ2 ⟨g.rel, x.trans g.ext⟩
  | ret r => exact fun v σ2 H2 μ2 g => h v σ2 H2 μ2 ⟨g.rel, x.trans g.ext, g.rep, fun o a e1 e2 => by
      rcases g.new o a e1 e2 with z | z
      · exact x.owned a z
      · exact .inr (x.dom a z), g.nl⟩
theorem Out.shiftX {D : Ends} {res : Res Flow} (x : Ext env μ σ H env1 μ1 σ1 H1) (h : Out p σ H env μ res (PostX p σ H env μ D)) : Out p σ1 H1 env1 μ1 res (PostX p σ1 H1 env1 μ1 D) := (h.shift x).imp fun _ _ _ q => q.shift x
theorem jss_nil : JSs p X [] (fun env M => .ok .next env M) := ⟨fun pins s σ H D I ⟨env, M, μ, r, o⟩ => pss_nil.run pins s σ H D I (o σ H μ (.refl r))⟩
theorem jss_cons {st : Stmt} {rest : List Stmt} {f g : Env → Mem → Res Flow} (h1 : JS p X st f) (h2 : JSs p X rest g) : JSs p X (st :: rest) (seqS f g) := by
  refine ⟨fun pins s σ H D I ⟨env, M, μ, r, o⟩ => (pss_cons h1 h2).run pins s σ H D I ⟨env, M, μ, r, (Out.bind o).imp fun fl env1 M1 q => ?_⟩⟩
  cases fl with
  | next => exact fun σ1 H1 μ1 g => ⟨env1, M1, μ1, g.rel, Out.shiftX g.ext q⟩
  | ret r => exact q
theorem js_pass : JS p X (.Pass pos) (fun env M => .ok .next env M) := ⟨fun pins s σ H D I ⟨env, M, μ, r, o⟩ => ps_pass.run pins s σ H D I (o σ H μ (.refl r))⟩
theorem js_doc {x : PySem.Str} {j : Nat} {pos' : Pos} : JS p X (.Expr (.Constant (.str x) j pos) pos') (fun env M => .ok .next env M) := ⟨fun pins s σ H D I ⟨env, M, μ, r, o⟩ => ps_doc.run pins s σ H D I (o σ H μ (.refl r))⟩
theorem js_expr {e : Expr} {fe : Ev} (he : JE p X e fe) (hs : swapsWith e none pos.line X.env = pure false) : JS p X (.Expr e pos) (expE fe) :=
  ⟨fun pins s σ H D I ⟨env, M, μ, r, o⟩ => (ps_expr he hs).run pins s σ H D I ⟨env, M, μ, r, (Out.bind o).imp fun r1 env1 M1 q v H1 μ1 g => q σ H1 μ1 ⟨g.rel, g.ext⟩⟩⟩
theorem js_retn : JS p X (.Return none pos) (fun env M => .ok (.ret (.val .non)) env M) :=
  ⟨fun pins s σ H D I ⟨env, M, μ, r, o⟩ => ps_retN.run pins s σ H D I (o .non σ H μ ⟨r, Ext.refl, .non, (fun o a e => nomatch e), (fun i e => nomatch e)⟩)⟩
theorem js_ret {e : Expr} {fe : Ev} (he : JE p X e fe) : JS p X (.Return (some e) pos) (retE fe) := by
  refine ⟨fun pins s σ H D I ⟨env, M, μ, r, o⟩ => (ps_ret he).run pins s σ H D I ⟨env, M, μ, r, (Out.bind o).imp fun r1 env1 M1 q v H1 μ1 g => ?_⟩⟩
  cases r1 with
  | val d => exact q v σ H1 μ1 ⟨g.rel, g.ext, g.rep, (fun o a e => nomatch e), (fun i e => nomatch e)⟩
  | own ob =>
    obtain ⟨a, rfl, h1, h2, h3⟩ := g.rep
    refine q _ σ H1 μ1 ⟨g.rel, g.ext, ⟨a, rfl, h1, h2, fun z => ?_⟩, fun o b _ e => .inr (g.new b e), fun i e => nomatch e⟩
    rcases z with ⟨i, o, e, _⟩ | ⟨i, o, e, _⟩ <;> simp at e
  | lnd i =>
    obtain ⟨h1, y, h2, h3⟩ := g.rep
    change Out p σ H env μ (match env1[i]? with | some (some (.own o)) => .ok (.ret (.own o)) env1 M1 | _ => .stuck) (PostX p σ H env μ D) at q
    split at q
    · rename_i ob eo
      obtain ⟨a, q1, q2, q3⟩ := g.rel.own i ob eo
      rw [h1] at q1; cases q1
      refine q _ σ H1 μ1 ⟨g.rel, g.ext, ⟨a, rfl, q2, q3, fun z => ?_⟩, fun o b _ e => ?_, fun i e => nomatch e⟩
      · rcases z with ⟨i, o, e, _⟩ | ⟨i, o, e, _⟩ <;> simp at e
      · cases e; exact g.ext.owned a ⟨i, ob, eo, h1⟩
    · exact q.elim
theorem js_if {c : Expr} {a b : List Stmt} {fc : Ev} {fa fb : Env → Mem → Res Flow} (hc : JT p X c (tst fc)) (ha : JSs p X a fa) (hb : JSs p X b fb) : JS p X (.If c a b pos) (ifsS fc fa fb) := by
  refine ⟨fun pins s σ H D I ⟨env, M, μ, r, o⟩ => wpAny_If (thn (hc pins s σ H env M μ _ I r (Out.bind o)) fun d s1 ⟨env1, M1, H1, μ1, I1, g, q⟩ => ?_)⟩
  cases d with
  | true => exact ha.run pins s1 σ H1 D I1 ⟨env1, M1, μ1, g.rel, Out.shiftX g.ext q⟩
  | false => exact hb.run pins s1 σ H1 D I1 ⟨env1, M1, μ1, g.rel, Out.shiftX g.ext q⟩

/-! ### stores -/
/-- a slot takes a new object -/
theorem Got.setOwn {i : Nat} {o : Ob} {a : Addr} (g : Got p σ H env μ (.own o) env1 M1 (.ref a) H1 μ1) (hl : isLck env1 i = false) : GotT p σ H env μ (env1.set i (some (.own o))) M1 (σ.set i (some (.ref a))) H1 μ1 := by
  obtain ⟨a', ea, hob, hm, hh⟩ := g.rep
  cases ea
  have r := g.rel
  have hs : ∀ (j : Nat), j ≠ i → (env1.set i (some (.own o)))[j]? = env1[j]? ∧ (σ.set i (some (.ref a)))[j]? = σ[j]? := fun j hj => ⟨List.getElem?_set_ne (Ne.symm hj), List.getElem?_set_ne (Ne.symm hj)⟩
  have hi : ∀ {x : SV}, (env1.set i (some (.own o)))[i]? = some (some x) → x = .own o ∧ (σ.set i (some (.ref a)))[i]? = some (some (.ref a)) := fun {x} e => by
    by_cases hlt : i < env1.length
    · rw [List.getElem?_set_self hlt] at e
      have hlt' : i < σ.length := by rw [← r.len]; exact hlt
      exact ⟨by cases e; rfl, List.getElem?_set_self hlt'⟩
    · rw [List.getElem?_eq_none (by simpa using hlt)] at e; cases e
  have own' : ∀ b, Owned (env1.set i (some (.own o))) (σ.set i (some (.ref a))) b → Owned env1 σ b ∨ b = a := fun b ⟨j, q, e1, e2⟩ => by
    by_cases hj : j = i
    · subst hj
      rw [(hi e1).2] at e2; cases e2
      exact .inr rfl
    · rw [(hs j hj).1] at e1; rw [(hs j hj).2] at e2
      exact .inl ⟨j, q, e1, e2⟩
  have ne : ∀ {b : Addr}, Held env1 σ b → b ≠ a := fun {b} h z => hh (z ▸ h)
  refine ⟨⟨by simp [r.len], fun j d e => ?_, fun j q e => ?_, fun j q e => ?_, r.mem, r.mlen, r.nd, fun j j' q q' b e1 e2 e3 e4 => ?_⟩, ⟨g.ext.pre, g.ext.keep, fun b z => ?_, fun j q e => ?_, g.ext.fz, g.ext.dom⟩⟩
  · by_cases hj : j = i
    · subst hj; have := (hi e).1; cases this
    · rw [(hs j hj).1] at e; rw [(hs j hj).2]; exact r.val j d e
  · by_cases hj : j = i
    · subst hj
      obtain ⟨e1, e2⟩ := hi e
      cases e1
      exact ⟨a, e2, hob, hm⟩
    · rw [(hs j hj).1] at e; rw [(hs j hj).2]; exact r.own j q e
  · by_cases hj : j = i
    · subst hj; have := (hi e).1; cases this
    · rw [(hs j hj).1] at e; rw [(hs j hj).2]
      obtain ⟨b, h1, h2, h3, h4⟩ := r.lck j q e
      refine ⟨b, h1, h2, h3, fun z => ?_⟩
      rcases own' b z with z | z
      · exact h4 z
      · exact ne (.inr ⟨j, q, e, h1⟩) z
  · by_cases hj : j = i
    · by_cases hj' : j' = i
      · rw [hj, hj']
      · subst hj
        rw [(hi e1).2] at e2; cases e2
        rw [(hs j' hj').1] at e3; rw [(hs j' hj').2] at e4
        exact absurd rfl (ne (.inl ⟨j', q', e3, e4⟩))
    · by_cases hj' : j' = i
      · subst hj'
        rw [(hi e3).2] at e4; cases e4
        rw [(hs j hj).1] at e1; rw [(hs j hj).2] at e2
        exact absurd rfl (ne (.inl ⟨j, q, e1, e2⟩))
      · rw [(hs j hj).1] at e1; rw [(hs j hj).2] at e2
        rw [(hs j' hj').1] at e3; rw [(hs j' hj').2] at e4
        exact r.sep j j' q q' b e1 e2 e3 e4
  · rcases own' b z with z | z
    · exact g.ext.owned b z
    · subst z; exact .inr (g.new b rfl)
  · by_cases hj : j = i
    · subst hj; have := (hi e).1; cases this
    · rw [(hs j hj).1] at e; rw [(hs j hj).2]; exact g.ext.lcks j q e
/-- what a store to a name makes of a result -/
theorem asg_go {own : Bool} {i : Nat} {r1 : R} {v : V} {P : Unit → Env → Mem → Prop} (I : Inv X pins σ H1 s) (g : Got p σ H env μ r1 env1 M1 v H1 μ1) (o : Out p σ H env μ (asgV own i r1 env1 M1) P) :
    ∃ H2 env2, Inv X pins σ H2 s ∧ GotT p σ H env μ env2 M1 (σ.set i (some v)) H2 μ1 ∧ (∀ b, H1 b = none → H2 b = none) ∧ P () env2 M1 := by
  unfold asgV at o
  split at o
  · exact o.elim
  · rename_i hz
    simp only [Bool.or_eq_true, not_or, Bool.not_eq_true] at hz
    have data : ∀ {d : D}, r1.toD = some d → P () (env1.set i (some (.val d))) M1 → ∃ H2 env2, Inv X pins σ H2 s ∧ GotT p σ H env μ env2 M1 (σ.set i (some v)) H2 μ1 ∧ (∀ b, H1 b = none → H2 b = none) ∧ P () env2 M1 := fun {d} e q => by
      obtain ⟨H2, I2, f, hd⟩ := freeze1 I g.rep e
      have rel2 := g.rel.frz f fun a ha => ⟨(g.rep.newOk a ha).1, (g.rep.newOk a ha).2.1⟩
      have x2 := g.ext.frz f g.new.newA
      have t := rel2.setVal hd hz.1
      refine ⟨H2, _, I2, ⟨t.rel, x2.trans t.ext⟩, fun b hb => ?_, q⟩
      rw [f.same b fun z => ?_]
      · exact hb
      · obtain ⟨u, _, h1, _⟩ := f.frz b z
        rw [hb] at h1; cases h1
    split at o
    · obtain ⟨a, rfl, _⟩ := g.rep
      exact ⟨H1, _, I, g.setOwn hz.1, fun _ h => h, o⟩
    · split at o
      · rename_i d e
        exact data e o
      · exact o.elim
/-- name = e -/
theorem js_set {own : Bool} {i : Nat} {x : PySem.Str} {e : Expr} {fe : Ev} {pos' : Pos} (hN : X.N.Nodup) (hi : X.N[i]? = some x) (hx : Loc X.env.scope x) (he : JE p X e fe) (hs : swapsWith e (some (.Name x pos')) pos.line X.env = pure false) (hf : X.fn x = true ∨ X.env.scope.names.lookup x = some .local) :
    JS p X (.Assign [.Name x pos'] e pos) (asgE (asgV own i) fe) := by
  refine ⟨fun pins s σ H D I ⟨env, M, μ, r, o⟩ => ?_⟩
  refine wpAny_Assign_Name (thn (JE.go he I r (Out.bind o)) fun u s1 ⟨v, r1, env1, M1, H1, μ1, I1, rv, g, o1⟩ => ?_) hs
  obtain ⟨H2, env2, I2, t, _, q⟩ := asg_go I1 g (Out.bind o1)
  exact store_ok I2 hN hi hx rv (fun s2 I3 => ⟨_, H2, I3, q _ H2 μ1 t⟩) hf
/-- target = e -/
theorem js_asg {tg e : Expr} {fe : Ev} {ft : D → Env → Mem → Res Unit} (he : JE p X e fe) (hg : JG p X tg ft) (hs : swapsWithSole [tg] e pos.line X.env = pure false) (hw : swappedStores [tg] e X.env = pure none)
    (h1 : (assignEach [tg] X.env).map (·.2) = [assign tg X.env]) : JS p X (.Assign [tg] e pos) (asgE (asgD ft) fe) := by
  refine ⟨fun pins s σ H D I ⟨env, M, μ, r, o⟩ => ?_⟩
  refine wpAny_Assign_stores (thn (JE.go he I r (Out.bind o)) fun u s1 ⟨v, r1, env1, M1, H1, μ1, I1, rv, g, o1⟩ => ?_) hs hw
  rw [h1]
  have o1 := Out.bind o1
  unfold asgD at o1
  split at o1
  · rename_i d ed
    obtain ⟨H2, I2, rel2, x2, hd⟩ := g.enc I1 ed
    refine thn (hg.run pins s1 σ H2 v u D.nx I2 rv ⟨env1, M1, μ1, d, rel2, hd, (o1.shift x2).imp fun _ env2 M2 q σ2 H3 μ2 t => ?_⟩) fun _ s2 q => q
    exact q σ2 H3 μ2 ⟨t.rel, x2.trans t.ext⟩
  · exact o1.elim
/-- name = [..] on one line -/
theorem js_setLc {own : Bool} {i : Nat} {y : PySem.Str} {py : Pos} {elt tg iter : Expr} {ifs : List Expr} {rest : List Comprehension} {scope : Scope} {spos : Pos} {f : Ev} (hN : X.N.Nodup) (hy : X.N[i]? = some y) (hyl : X.env.scope.names.lookup y = some .local) (hsw : swapsWith (.ListComp elt (⟨tg, iter, ifs, 0⟩ :: rest) scope pos) (some (.Name y py)) spos.line X.env = pure true)
    (h : JLc p X (.ListComp elt (⟨tg, iter, ifs, 0⟩ :: rest) scope pos) f) : JS p X (.Assign [.Name y py] (.ListComp elt (⟨tg, iter, ifs, 0⟩ :: rest) scope pos) spos) (asgE (asgV own i) f) := by
  refine ⟨fun pins s σ H D I ⟨env, M, μ, r, o⟩ => ?_⟩
  have o := Out.bind o
  rw [exec_Assign_Name_used _ _ _ _ hsw]
  refine wpAny_bind (wpAny_standAt (wpAny_bind ?_))
  show wpAny _ X.A (do let _ ← comprehension (.ListComp elt (⟨tg, iter, ifs, 0⟩ :: rest) scope pos) scope X.env (firstIterPos (⟨tg, iter, ifs, 0⟩ :: rest) pos) (newList []) false (eval iter X.env) (some (assign (.Name y py) X.env))) _ _ s
  refine wpAny_bind (thn (h pins s σ H env M μ _ _ (fun _ s' => SP X pins D .next s') _ I r o fun L C s' m r1 M' H' μ' I' g q hn f => ?_) fun _ s' hq => wpAny_pure (wpAny_pure hq))
  show wpAny _ _ (assign (.Name y py) X.env (.ref L)) _ _ _
  obtain ⟨H2, env2, I2, t, fr2, q⟩ := asg_go I' g (Out.bind q)
  refine wpAny_assign_Name (store_ok2 (v := V.ref L) I2 hN hy (.inl hyl) rfl (fun s2 I3 ⟨a, sb, ha⟩ => ?_) (.inr hyl))
  obtain ⟨f0, f1, f2, f3, f4, f5⟩ := f
  have haC : C ≠ a := by
    rcases ha with z | z
    · rw [z]; exact f1
    · exact fun e => f4 y a z e.symm
  have f0' : H2 C = none := fr2 C f0
  refine ⟨m, hn.sameBut sb haC, fun h3 sb3 => ?_⟩
  exact ⟨_, H2, I3.turned (t' := s2.toks) (fun b o hb e => (sb3.2 b hb).trans e) f0' f1 f3 f4 f5, q _ H2 μ' t⟩
end
end Iv

/-! Iv: for, while. -/
namespace Iv
open PySem PySem.Spec PyProof.Rows L2
section
variable {w : World} {K : PySem.W.Frag} {env env' : Env} {M M' : Mem} {μ μ' : List Addr} {σ σ' : L2.St} {H H' : Hp}
/-- slots forgotten -/
theorem Rel.wipe (l : List Nat) (r : Rel w K env M μ σ H) : Rel w K (wipeE env l) M μ σ H ∧ Ext env μ σ H (wipeE env l) μ σ H := by
  have ow : ∀ b, Owned (wipeE env l) σ b → Owned env σ b := fun b ⟨i, o, e1, e2⟩ => ⟨i, o, (wipeE_some e1).1, e2⟩
  refine ⟨⟨(wipeE_len env l).trans r.len, fun i d e => r.val i d (wipeE_some e).1, fun i o e => r.own i o (wipeE_some e).1, fun i o e => ?_, r.mem, r.mlen, r.nd, fun i i' o o' a e1 e2 e3 e4 => r.sep i i' o o' a (wipeE_some e1).1 e2 (wipeE_some e3).1 e4⟩,
    ⟨⟨[], by simp⟩, fun _ _ h _ _ => h, fun b h => .inl (ow b h), fun i o e => ⟨(wipeE_some e).1, rfl⟩, FzE.refl _, fun _ h => h⟩⟩
  obtain ⟨a, h1, h2, h3, h4⟩ := r.lck i o (wipeE_some e).1
  exact ⟨a, h1, h2, h3, fun z => h4 (ow a z)⟩
theorem lock_at {i : Nat} {o : Ob} (e : env[i]? = some (some (.own o))) (j : Nat) : (env.set i (some (.lck o)))[j]? = if j = i then some (some (.lck o)) else env[j]? := by
  obtain ⟨hi, _⟩ := List.getElem?_eq_some_iff.mp e
  by_cases hj : j = i
  · subst hj; rw [if_pos rfl, List.getElem?_set_self hi]
  · rw [if_neg hj, List.getElem?_set_ne (Ne.symm hj)]
/-- a slot is locked -/
theorem Rel.lock {i : Nat} {o : Ob} (r : Rel w K env M μ σ H) (e : env[i]? = some (some (.own o))) : Rel w K (env.set i (some (.lck o))) M μ σ H ∧ ∀ b, Owned (env.set i (some (.lck o))) σ b ↔ Owned env σ b ∧ σ[i]? ≠ some (some (.ref b)) := by
  obtain ⟨a, ea, ho, hm⟩ := r.own i o e
  have ow : ∀ b, Owned (env.set i (some (.lck o))) σ b ↔ Owned env σ b ∧ σ[i]? ≠ some (some (.ref b)) := fun b => by
    constructor
    · rintro ⟨j, q, h1, h2⟩
      rw [lock_at e] at h1
      by_cases hj : j = i
      · rw [if_pos hj] at h1; cases h1
      · rw [if_neg hj] at h1
        exact ⟨⟨j, q, h1, h2⟩, fun z => hj (r.sep j i q o b h1 h2 e z)⟩
    · rintro ⟨⟨j, q, h1, h2⟩, n⟩
      have hj : j ≠ i := fun z => n (z ▸ h2)
      exact ⟨j, q, by rw [lock_at e, if_neg hj]; exact h1, h2⟩
  refine ⟨⟨by simp [r.len], fun j d h => ?_, fun j q h => ?_, fun j q h => ?_, r.mem, r.mlen, r.nd, fun j j' q q' b h1 h2 h3 h4 => ?_⟩, ow⟩
  · rw [lock_at e] at h
    by_cases hj : j = i
    · rw [if_pos hj] at h; cases h
    · rw [if_neg hj] at h; exact r.val j d h
  · rw [lock_at e] at h
    by_cases hj : j = i
    · rw [if_pos hj] at h; cases h
    · rw [if_neg hj] at h; exact r.own j q h
  · rw [lock_at e] at h
    by_cases hj : j = i
    · rw [if_pos hj] at h; cases h; subst hj
      exact ⟨a, ea, ho, hm, fun z => ((ow a).mp z).2 ea⟩
    · rw [if_neg hj] at h
      obtain ⟨b, h1, h2, h3, h4⟩ := r.lck j q h
      exact ⟨b, h1, h2, h3, fun z => h4 ((ow b).mp z).1⟩
  · have key : ∀ {j : Nat} {q : Ob}, (env.set i (some (.lck o)))[j]? = some (some (.own q)) → env[j]? = some (some (.own q)) := fun {j q} h => by
      rw [lock_at e] at h
      by_cases hj : j = i
      · rw [if_pos hj] at h; cases h
      · rw [if_neg hj] at h; exact h
    exact r.sep j j' q q' b (key h1) h2 (key h3) h4
/-- and unlocked again -/
theorem Rel.unlock {i : Nat} {o o' : Ob} {env2 : Env} {σ2 : L2.St} {μ2 : List Addr} {H2 : Hp} {M2 : Mem} (r : Rel w K env M μ σ H) (e : env[i]? = some (some (.own o))) (r2 : Rel w K env2 M2 μ2 σ2 H2) (x : Ext (env.set i (some (.lck o))) μ σ H env2 μ2 σ2 H2) (e2 : env2[i]? = some (some (.lck o'))) :
    Rel w K (env2.set i (some (.own o'))) M2 μ2 σ2 H2 ∧ Ext env μ σ H (env2.set i (some (.own o'))) μ2 σ2 H2 := by
  obtain ⟨a, ea, ho, hm⟩ := r.own i o e
  obtain ⟨rl, ow⟩ := r.lock e
  obtain ⟨_, es⟩ := x.lcks i o' e2
  have ea2 : σ2[i]? = some (some (.ref a)) := es.trans ea
  obtain ⟨a', k1, ho2, hm2, hn2⟩ := r2.lck i o' e2
  rw [ea2] at k1; cases k1
  have at2 : ∀ j, (env2.set i (some (.own o')))[j]? = if j = i then some (some (.own o')) else env2[j]? := fun j => by
    obtain ⟨hi, _⟩ := List.getElem?_eq_some_iff.mp e2
    by_cases hj : j = i
    · subst hj; rw [if_pos rfl, List.getElem?_set_self hi]
    · rw [if_neg hj, List.getElem?_set_ne (Ne.symm hj)]
  have ow2 : ∀ b, Owned (env2.set i (some (.own o'))) σ2 b → Owned env2 σ2 b ∨ b = a := fun b ⟨j, q, h1, h2⟩ => by
    rw [at2] at h1
    by_cases hj : j = i
    · subst hj; rw [ea2] at h2; cases h2; exact .inr rfl
    · rw [if_neg hj] at h1; exact .inl ⟨j, q, h1, h2⟩
  have oa : Owned env σ a := ⟨i, o, e, ea⟩
  -- a lent slot elsewhere is not of this object
  have ne : ∀ {j : Nat} {q : Ob} {b : Addr}, j ≠ i → env2[j]? = some (some (.lck q)) → σ2[j]? = some (some (.ref b)) → b ≠ a := fun {j q b} hj h1 h2 z => by
    subst z
    obtain ⟨h3, h4⟩ := x.lcks j q h1
    rw [lock_at e, if_neg hj] at h3
    obtain ⟨c, k1, _, _, k4⟩ := r.lck j q h3
    rw [h4, k1] at h2
    cases h2
    exact k4 oa
  refine ⟨⟨by simp [r2.len], fun j d h => ?_, fun j q h => ?_, fun j q h => ?_, r2.mem, r2.mlen, r2.nd, fun j j' q q' b h1 h2 h3 h4 => ?_⟩, ⟨x.pre, fun b u h n1 n2 => x.keep b u h n1 fun z => n2 ((ow b).mp z).1, fun b h => ?_, fun j q h => ?_, x.fz, x.dom⟩⟩
  · rw [at2] at h
    by_cases hj : j = i
    · rw [if_pos hj] at h; cases h
    · rw [if_neg hj] at h; exact r2.val j d h
  · rw [at2] at h
    by_cases hj : j = i
    · rw [if_pos hj] at h; cases h; subst hj
      exact ⟨a, ea2, ho2, hm2⟩
    · rw [if_neg hj] at h; exact r2.own j q h
  · rw [at2] at h
    by_cases hj : j = i
    · rw [if_pos hj] at h; cases h
    · rw [if_neg hj] at h
      obtain ⟨b, h1, h2, h3, h4⟩ := r2.lck j q h
      refine ⟨b, h1, h2, h3, fun z => ?_⟩
      rcases ow2 b z with z | z
      · exact h4 z
      · exact ne hj h h1 z
  · have own2 : ∀ {j : Nat} {q : Ob}, j ≠ i → (env2.set i (some (.own o')))[j]? = some (some (.own q)) → env2[j]? = some (some (.own q)) := fun {j q} hj h => by
      rw [at2, if_neg hj] at h; exact h
    by_cases hj : j = i
    · by_cases hj' : j' = i
      · rw [hj, hj']
      · subst hj
        rw [ea2] at h2; cases h2
        exact absurd ⟨j', q', own2 hj' h3, h4⟩ hn2
    · by_cases hj' : j' = i
      · subst hj'
        rw [ea2] at h4; cases h4
        exact absurd ⟨j, q, own2 hj h1, h2⟩ hn2
      · exact r2.sep j j' q q' b (own2 hj h1) h2 (own2 hj' h3) h4
  · rcases ow2 b h with z | z
    · rcases x.owned b z with y | y
      · exact .inl ((ow b).mp y).1
      · exact .inr y
    · subst z; exact .inl oa
  · rw [at2] at h
    by_cases hj : j = i
    · rw [if_pos hj] at h; cases h
    · rw [if_neg hj] at h
      obtain ⟨h3, h4⟩ := x.lcks j q h
      rw [lock_at e, if_neg hj] at h3
      exact ⟨h3, h4⟩
end
section
variable {p : Pm} {X : Cx} {σ σ1 : L2.St} {H H1 : Hp} {env env1 : Env} {M M1 : Mem} {μ μ1 : List Addr} {pins : List (Addr × Obj)} {s : Shared} {pos : Pos}
/-- the loop itself -/
theorem for_go {wip : List Nat} {ft : D → Env → Mem → Res Unit} {fb : Env → Mem → Res Flow} {J : It} {ds : List D} {S : List Addr} {D' : Ends} {tg : V → L2.St → Hp → (L2.St → Hp → Prop) → Prop} (hK : p.K = X.K)
    (htg : ∀ v σ H Q, (∃ env M μ d, Rel p.w p.K env M μ σ H ∧ Enc p.w p.K H μ d v ∧ Out p σ H env μ (ft d env M) fun _ env1 M1 => ∀ σ1 H1 μ1, GotT p σ H env μ env1 M1 σ1 H1 μ1 → Q σ1 H1) → tg v σ H Q)
    (r : Rel p.w p.K env M μ σ H) (hp : ∀ a ∈ S, (∃ u, H a = some u) ∧ a ∉ μ ∧ ¬ Owned env σ a) (ys : Ys p.w p.K J ds H μ S) (o : Out p σ H env μ (goFor wip ft fb ds env M) (PostX p σ H env μ D')) :
    ∃ W : Nat → Nat → L2.St → Hp → Prop, (∃ m, W 0 m σ H) ∧ ∀ i m σ H, W i m σ H →
      (J.stop i H ∧ D'.nx σ H) ∨ (J.go i H ∧ ∃ N : L2.St → Hp → Prop, (∀ σ' H', N σ' H' → ∃ m', m' < m ∧ W (i + 1) m' σ' H') ∧ ∀ x H', J.yld i H x H' → tg x σ H' fun σ2 H2 => tX p fb { D' with nx := N, ct := N, bk := D'.nx } σ2 H2) := by
  refine ⟨fun i m σ' H' => ∃ env' M' μ', Rel p.w p.K env' M' μ' σ' H' ∧ Ext env μ σ H env' μ' σ' H' ∧ m = ds.length - i ∧ i ≤ ds.length ∧ Out p σ' H' env' μ' (goFor wip ft fb (ds.drop i) env' M') (PostX p σ' H' env' μ' D'), ⟨_, env, M, μ, r, Ext.refl, rfl, Nat.zero_le _, by simpa using o⟩, ?_⟩
  rintro i m σ' H' ⟨env', M', μ', r', x', rfl, hi, o'⟩
  have kept : Kept S H H' := by
    refine ⟨fun b hb => ?_, x'.fz⟩
    obtain ⟨⟨u, hu⟩, n1, n2⟩ := hp b hb
    rw [x'.keep b u hu n1 n2, hu]
  by_cases hlt : i < ds.length
  · refine .inr ⟨ys.go i H' kept hlt, fun σ2 H2 => ∃ env2 M2 μ2, Rel p.w p.K env2 M2 μ2 σ2 H2 ∧ Ext env μ σ H env2 μ2 σ2 H2 ∧ Out p σ2 H2 env2 μ2 (goFor wip ft fb (ds.drop (i + 1)) env2 M2) (PostX p σ2 H2 env2 μ2 D'), fun σ2 H2 ⟨env2, M2, μ2, r2, x2, o2⟩ => ⟨ds.length - (i + 1), by omega, env2, M2, μ2, r2, x2, rfl, by omega, o2⟩, fun x H3 y3 => ?_⟩
    have hd : ds[i]? = some ds[i] := List.getElem?_eq_getElem hlt
    obtain ⟨sm, he⟩ := ys.yld i H' x H3 _ kept hd y3
    rw [List.drop_eq_getElem_cons hlt] at o'
    have o' := Out.bind (show Out p σ' H' env' μ' ((ft ds[i] env' M').bind _) (PostX p σ' H' env' μ' D') from o')
    refine htg _ _ _ _ ⟨env', M', μ', ds[i], r'.grow sm, he.mono (FzE.refl _) x'.mu, (o'.shift (Ext.grow sm)).imp fun _ env4 M4 q σ4 H4 μ4 g => ?_⟩
    have q := Out.bind ((q.shift (Ext.grow sm)).shift g.ext)
    refine ⟨env4, M4, μ4, g.rel, q.imp fun fl env5 M5 q => ?_⟩
    have xb : Ext env' μ' σ' H' env4 μ4 σ4 H4 := (Ext.grow sm).trans g.ext
    cases fl with
    | next =>
      intro σ5 H5 μ5 g5
      obtain ⟨rw, xw⟩ := g5.rel.wipe wip
      have xx := xb.trans (g5.ext.trans xw)
      exact ⟨_, _, μ5, rw, x'.trans xx, (q.shift (g5.ext.trans xw)).imp fun fl env6 M6 q => q.shift xx⟩
    | ret r5 =>
      intro v σ5 H5 μ5 g5
      obtain ⟨rw, xw⟩ := g5.rel.wipe wip
      refine (show PostX p σ' H' env' μ' D' (.ret r5) (wipeE env5 wip) M5 from q) v σ5 H5 μ5 ⟨rw, xb.trans (g5.ext.trans xw), g5.rep, fun o a e1 e2 => ?_, g5.nl⟩
      rcases g5.new o a e1 e2 with z | z
      · exact xb.owned a z
      · exact .inr (xb.dom a z)
  · have e : i = ds.length := by omega
    subst e
    rw [List.drop_length] at o'
    exact .inl ⟨ys.stop _ H' kept (Nat.le_refl _), o' σ' H' μ' (.refl r')⟩
theorem js_for {tg iter : Expr} {body : List Stmt} {wip : List Nat} {ft : D → Env → Mem → Res Unit} {fi : Env → Mem → Res (List D × Option Nat)} {fb : Env → Mem → Res Flow} (hK : p.K = X.K) (hps : PassesOwn (model X.prog X.w) X.A X.env X.xe) (hc : X.calm = true) (hi : JI p X tg iter fi) (hg : JG p X tg ft) (hb : JSs p X body fb)
    (hs : ∀ x, foldedSetIterable iter X.env x = pure x) : JS p X (.For tg iter body [] pos) (forS wip ft fi fb) := by
  refine ⟨fun pins s σ H D I ⟨env, M, μ, r, o⟩ => (ps_for hps hc hi hg hb hs).run pins s σ H D I ⟨env, M, μ, r, (Out.bind o).imp fun l env1 M1 o1 J H1 μ1 S g ys pr _ => ?_⟩⟩
  split at o1
  · rename_i hw
    -- the slot's own object is gone through
    unfold wasOwn at hw
    split at hw
    · cases hw
    · rename_i i el
      split at hw
      · rename_i ob eo
        obtain ⟨rl, ow⟩ := g.rel.lock eo
        obtain ⟨a, ea, _, _⟩ := g.rel.own i ob eo
        have el' : lockS env1 l.2 = env1.set i (some (.lck ob)) := by rw [el]; simp only [lockS, eo]
        rw [el'] at o1
        have post : Out p σ H1 (env1.set i (some (.lck ob))) μ1 (goFor wip ft fb l.1 (env1.set i (some (.lck ob))) M1) (PostX p σ H1 (env1.set i (some (.lck ob))) μ1 D) := by
          have unl : ∀ {env2 env3 : Env}, unlock env2 l.2 = some env3 → ∃ o', env2[i]? = some (some (.lck o')) ∧ env3 = env2.set i (some (.own o')) := fun {env2 env3} h => by
            rw [el] at h
            simp only [unlock] at h
            split at h
            · rename_i o' e2; cases h; exact ⟨o', e2, rfl⟩
            · cases h
          generalize goFor wip ft fb l.1 (env1.set i (some (.lck ob))) M1 = res at o1 ⊢
          cases res with
          | stuck => exact o1
          | ok fl env2 M2 =>
            simp only [unlockR] at o1
            cases eu : unlock env2 l.2 with
            | none => rw [eu] at o1; exact o1.elim
            | some env3 =>
              rw [eu] at o1
              obtain ⟨o', e2, rfl⟩ := unl eu
              cases fl with
              | next =>
                intro σ2 H2 μ2 g2
                obtain ⟨r3, x3⟩ := g.rel.unlock eo g2.rel g2.ext e2
                exact (show PostX p σ H env μ D .next _ M2 from o1) σ2 H2 μ2 ⟨r3, g.ext.trans x3⟩
              | ret r2 =>
                intro v σ2 H2 μ2 g2
                obtain ⟨r3, x3⟩ := g.rel.unlock eo g2.rel g2.ext e2
                refine (show PostX p σ H env μ D (.ret r2) _ M2 from o1) v σ2 H2 μ2 ⟨r3, g.ext.trans x3, g2.rep, fun o a e1 e2 => ?_, g2.nl⟩
                rcases g2.new o a e1 e2 with z | z
                · exact g.ext.owned a ((ow a).mp z).1
                · exact .inr (g.ext.dom a z)
          | exc y env2 M2 =>
            simp only [unlockR] at o1
            cases eu : unlock env2 l.2 with
            | none => rw [eu] at o1; exact o1.elim
            | some env3 =>
              rw [eu] at o1
              obtain ⟨o', e2, rfl⟩ := unl eu
              intro cls d σ2 H2 μ2 r2 hx x2
              obtain ⟨r3, x3⟩ := g.rel.unlock eo r2 x2 e2
              exact o1 cls d σ2 H2 μ2 r3 hx (g.ext.trans x3)
        exact for_go hK (fun v σ H Q h => h) rl (fun b hb => ⟨(pr b hb).1, (pr b hb).2.1, fun z => by
          obtain ⟨z1, z2⟩ := (ow b).mp z
          obtain ⟨j, q, h1, h2, h3⟩ := (pr b hb).2.2 z1
          rw [el] at h1; cases h1
          exact z2 h3⟩) ys post
      · cases hw
  · rename_i hw
    refine for_go hK (fun v σ H Q h => h) g.rel (fun b hb => ⟨(pr b hb).1, (pr b hb).2.1, fun z => ?_⟩) ys (Out.shiftX g.ext o1)
    obtain ⟨j, q, h1, h2, h3⟩ := (pr b hb).2.2 z
    rw [h1] at hw
    simp [wasOwn, h2] at hw
theorem js_while {c : Expr} {body : List Stmt} {wip : List Nat} {fc : Ev} {fb : Env → Mem → Res Flow} {n : Nat} (hps : PassesOwn (model X.prog X.w) X.A X.env X.xe) (hc : JT p X c (tst fc)) (hb : JSs p X body fb) : JS p X (.While c body [] pos) (whileN n wip fc fb) := by
  have hcp : PT X c (fun σ H Q => ∃ env M μ, Rel p.w p.K env M μ σ H ∧ Out p σ H env μ (tst fc env M) fun b env1 M1 => ∀ H1 μ1, GotB p σ H env μ env1 M1 H1 μ1 → Q b H1) := ⟨fun pins s σ H Q I ⟨env, M, μ, r, o⟩ => thn (hc pins s σ H env M μ _ I r o) fun b s1 ⟨env1, M1, H1, μ1, I1, g, q⟩ => ⟨H1, I1, q H1 μ1 g⟩⟩
  refine ⟨fun pins s σ H D I ⟨env, M, μ, r, o⟩ => (ps_while hps hcp hb).run pins s σ H D I ⟨fun m σ' H' => ∃ env' M' μ', Rel p.w p.K env' M' μ' σ' H' ∧ Out p σ' H' env' μ' (whileN m wip fc fb env' M') (PostX p σ' H' env' μ' D), ⟨n, env, M, μ, r, o⟩, ?_⟩⟩
  rintro m σ1 H1 ⟨env1, M1, μ1, r1, o1⟩
  cases m with
  | zero => exact o1.elim
  | succ m =>
    refine ⟨env1, M1, μ1, r1, (Out.bind o1).imp fun b env2 M2 q H2 μ2 g => ?_⟩
    cases b with
    | false => exact q σ1 H2 μ2 ⟨g.rel, g.ext⟩
    | true =>
      refine ⟨fun σ' H' => ∃ env' M' μ', Rel p.w p.K env' M' μ' σ' H' ∧ Out p σ' H' env' μ' (whileN m wip fc fb env' M') (PostX p σ' H' env' μ' D), fun σ' H' h => ⟨m, Nat.lt_succ_self m, h⟩, env2, M2, μ2, g.rel, ((Out.bind q).shift g.ext).imp fun fl env3 M3 q => ?_⟩
      cases fl with
      | next =>
        intro σ3 H3 μ3 g3
        obtain ⟨rw, xw⟩ := g3.rel.wipe wip
        have xx := g.ext.trans (g3.ext.trans xw)
        exact ⟨_, _, μ3, rw, (q.shift xx).imp fun fl env6 M6 q => q.shift xx⟩
      | ret r3 => exact PostX.shift (p := p) (D := D) (fl := .ret r3) (env2 := env3) (M2 := M3) g.ext q
end
end Iv

/-! Iv: which terms are which written code; the one induction. -/
namespace Iv
open PySem PySem.Spec PyProof.Rows L2

/-! ### plain facts of written code -/
def isStar : Expr → Bool
  | .Starred _ _ => true
  | _ => false
def isSet : Expr → Bool
  | .Set _ _ _ => true
  | _ => false
def isCmp : Expr → Bool
  | .ListComp _ _ _ _ => true
  | .SetComp _ _ _ _ => true
  | .DictComp _ _ _ _ _ => true
  | _ => false
def isBop : Expr → Bool
  | .BoolOp _ _ _ => true
  | _ => false
def isCall : Expr → Bool
  | .Call _ _ _ _ => true
  | _ => false
def isTupE : Expr → Bool
  | .Tuple _ _ _ => true
  | .List _ _ => true
  | _ => false
def isName : Expr → Bool
  | .Name _ _ => true
  | _ => false
def valE : Expr → Bool
  | .BoolOp _ _ _ => false
  | .UnaryOp .Not _ _ => false
  | .Compare _ _ _ _ => false
  | .IfExp _ _ _ _ => false
  | _ => true
section
variable {env : PySem.Env} {e : Expr} {es : List Expr}
theorem star_cons (h : isStar e = false) : starEach (e :: es) env = (false, eval e env) :: starEach es env := by
  cases e <;> first | rfl | cases h
theorem asg_cons (h : isStar e = false) : (assignEach (e :: es) env).map (·.2) = assign e env :: (assignEach es env).map (·.2) := by
  cases e <;> first | rfl | cases h
theorem noStar_any {pos : Pos} : ∀ {es : List Expr}, es.all (fun e => !isStar e) = true → (backTo pos (starEach es env)).any (·.1) = false
  | [], _ => rfl
  | e :: es, h => by
    simp only [List.all_cons, Bool.and_eq_true, Bool.not_eq_true'] at h
    rw [star_cons h.1]
    show (false || (backTo pos (starEach es env)).any (·.1)) = false
    rw [noStar_any h.2]; rfl
theorem noStar_all {pos : Pos} : ∀ {es : List Expr}, es.all (fun e => !isStar e) = true → (backTo pos (starEach es env)).all (fun x => !x.1) = true
  | [], _ => rfl
  | e :: es, h => by
    simp only [List.all_cons, Bool.and_eq_true, Bool.not_eq_true'] at h
    rw [star_cons h.1]
    show (true && (backTo pos (starEach es env)).all (fun x => !x.1)) = true
    rw [noStar_all h.2]; rfl
theorem asg_len : ∀ {es : List Expr}, (assignEach es env).length = es.length
  | [] => rfl
  | e :: es => by cases e <;> (show (assignEach es env).length + 1 = es.length + 1; rw [asg_len])
theorem asg_find {env : PySem.Env} : ∀ {es : List Expr}, es.all (fun e => !isStar e) = true → (assignEach es env).findIdx? (·.1) = none
  | [], _ => rfl
  | e :: es, h => by
    simp only [List.all_cons, Bool.and_eq_true, Bool.not_eq_true'] at h
    have ih := asg_find (env := env) (es := es) h.2
    have hs := h.1
    have : assignEach (e :: es) env = (false, assign e env) :: assignEach es env := by
      cases e <;> first | rfl | (cases hs)
    rw [this, List.findIdx?_cons, ih]
    rfl
theorem folded_ok (h : isSet e = false) (x : Value) : foldedSetIterable e env x = pure x := by
  cases e <;> first | rfl | cases h
theorem base_ok {name : PySem.Str} {whole : Sem Value} (h : isCall e = false) : attributeBase e name env whole = whole := by
  cases e <;> first | rfl | cases h
theorem plain_ok (h : isSlice e = false) : PlainIx e := by
  intro o i
  cases e <;> first | rfl | cases h
theorem true_ok (h : valE e = true) (whole : Sem Value) : PySem.isTrue e env whole = (do let v ← whole; standAt e.pos; holding [v] (truthy v)) := by
  cases e with
  | UnaryOp op a pos => cases op <;> first | rfl | cases h
  | _ => first | rfl | cases h
theorem swaps_none {l : Nat} {o : Option Expr} (h : isCmp e = false) : swapsWith e o l env = pure false := by
  cases e <;> first | rfl | cases h
theorem swaps_lc {elt : Expr} {gens : List Comprehension} {scope : Scope} {pos py : Pos} {y : PySem.Str} {l : Nat} (hk : env.scope.kind = .function) : swapsWith (.ListComp elt gens scope pos) (some (.Name y py)) l env = pure (env.scope.names.lookup y == some .local && py.line == pos.line && !(scope.names.any fun (n, k) => n == y && (k == .local || k == .cell))) := by
  have hb : env.blockKind = .function := by unfold Env.blockKind; rw [hk]; rfl
  unfold swapsWith
  simp only [hb]
  rfl
theorem swapsSole_ok {tg : Expr} {l : Nat} (h : isName tg = false) : swapsWithSole [tg] e l env = pure false := by
  unfold swapsWithSole
  cases e <;> first | rfl | (cases tg <;> first | rfl | cases h)
theorem swapped_ok {tg : Expr} (h : (isTupE tg && isTupE e) = false) : swappedStores [tg] e env = pure none := by
  cases tg <;> first | rfl | (cases e <;> first | rfl | cases h)
end

/-! ### the checker -/
structure Cz where
  N : List PySem.Str
  scope : Scope
  st : Scope
  blk : Bool
  fs : List PySem.Str
  cs : List (PySem.Str × Int)
  gd : Bool
inductive Q where
  | ex (e : Expr) | e1 (e : Expr) | es (l : List Expr) | tg (e : Expr) | tgs (l : List Expr) | it (tg e : Expr) | ts (l : List Expr)
  | cl (C : Expr) (k : Nat) | c1 (C : Expr) (c : Cz) | st (s : Stmt) | ss (l : List Stmt)
def vis (c : Cz) (x : PySem.Str) : Bool := match c.scope.names.lookup x with
  | some .local => true
  | some .cell => true
  | some .free => true
  | _ => false
def locl (s : Scope) (x : PySem.Str) : Bool := match s.names.lookup x with
  | some .local => true
  | some .cell => true
  | _ => false
def stor (c : Cz) (x : PySem.Str) : Bool := locl c.scope x && locl c.st x
def gl (c : Cz) (x : PySem.Str) : Bool := match c.scope.names.lookup x with
  | some .globalImplicit => true
  | _ => false
def nameOk (c : Cz) (i : Nat) (x : PySem.Str) : Bool := c.N[i]? == some x && vis c x && !(x == ("__debug__" : PySem.Str)) && !(x == ("__classdict__" : PySem.Str))
def Cz.inner (c : Cz) (scope : Scope) : Cz := { c with scope := relS scope c.scope, st := scope, blk := true }
def bopOf : Bop → Operator
  | .add => .Add | .sub => .Sub | .mul => .Mult | .fdiv => .FloorDiv | .mod => .Mod | .pow => .Pow | .xor => .BitXor
def copOf : Cop → CmpOp
  | .eq => .Eq | .ne => .NotEq | .lt => .Lt | .le => .LtE | .gt => .Gt | .ge => .GtE | .is => .Is | .nis => .IsNot | .mem => .In | .nmem => .NotIn
def bltName : Blt → PySem.Str
  | .len => "len" | .sum => "sum" | .abs => "abs" | .int => "int" | .str => "str" | .min => "min" | .max => "max" | .all => "all" | .list => "list" | .tuple => "tuple" | .repr => "repr" | .isi _ => "isinstance"
  | .sorted => "sorted" | .dict => "dict" | .set => "set"
def tyName (t : Ty) : PySem.Str := PySem.Str.ofString t.name
def mthName : Mth → PySem.Str
  | .append => "append" | .extend => "extend" | .insert => "insert" | .pop => "pop" | .count => "count" | .index => "index" | .join => "join" | .split => "split" | .endswith => "endswith" | .get => "get" | .setdefault => "setdefault" | .update => "update" | .values => "values" | .items => "items"
def bltOk : Blt → Bool
  | .len | .sum | .abs | .int | .str | .min | .max | .all | .list | .tuple => true
  | _ => false
def nextOk (C : Expr) (k : Nat) : Bool := match (clausesOf C)[k + 1]? with
  | none => true
  | some g => g.is_async == 0 && !isSet g.iter
def opNe : Bop → Bool
  | .xor => false
  | _ => true
def ownOf (c : Cz) (own : List Nat) : List (PySem.Str × Nat) := own.map fun i => (c.N[i]?.getD "", i)
def isNilT : T → Bool
  | .nil => true
  | _ => false

def chk : T → Cz → Q → Bool
  | .nil, c, q => match q with
    | .es [] => true
    | .tgs [] => true
    | .ts [] => true
    | .ss [] => true
    | _ => false
  | .cons a b, c, q => match q with
    | .es (e :: l) => chk a c (.ex e) && chk b c (.es l) && !isStar e
    | .e1 e => chk a c (.ex e) && isNilT b
    | .tgs (e :: l) => chk a c (.tg e) && chk b c (.tgs l) && !isStar e
    | .ts [e] => chk a c (.ex e) && isNilT b
    | .ss (s :: l) => chk a c (.st s) && chk b c (.ss l)
    | _ => false
  | .var i, c, q => match q with
    | .ex (.Name x _) => nameOk c i x
    | _ => false
  | .int n, c, q => match q with
    | .ex (.Constant (.int m) _ _) => n == m
    | _ => false
  | .bl n, c, q => match q with
    | .ex (.Constant (.bool m) _ _) => n == m
    | _ => false
  | .non, c, q => match q with
    | .ex (.Constant .none _ _) => true
    | _ => false
  | .str n, c, q => match q with
    | .ex (.Constant (.str m) _ _) => n == m
    | _ => false
  | .con d, c, q => match q, d with
    | .ex (.Name x _), .int n => gl c x && c.cs.lookup x == some n && !(x == ("__debug__" : PySem.Str))
    | _, _ => false
  | .tup es, c, q => match q with
    | .ex (.Tuple l _ _) => chk es c (.es l)
    | _ => false
  | .lst es, c, q => match q with
    | .ex (.List l _) => chk es c (.es l)
    | _ => false
  | .dic _, _, _ => false
  | .alc a, c, q => match q with
    | .ex e => chk a c (.ex e) && valE e
    | _ => false
  | .bin op a b, c, q => match q with
    | .ex (.BinOp x o y _) => decide (o = bopOf op) && opNe op && chk a c (.ex x) && chk b c (.ex y)
    | _ => false
  | .neg a, c, q => match q with
    | .ex (.UnaryOp .USub x _) => chk a c (.ex x)
    | _ => false
  | .not a, c, q => match q with
    | .ex (.UnaryOp .Not x _) => chk a c (.ex x)
    | _ => false
  | .cmp op a b, c, q => match q with
    | .ex (.Compare x [o] [y] _) => decide (o = copOf op) && chk a c (.ex x) && chk b c (.ex y) && !isSet y
    | _ => false
  | .chn o1 o2 a b d, c, q => match q with
    | .ex (.Compare x [p1, p2] [y, z] _) => decide (p1 = copOf o1) && decide (p2 = copOf o2) && chk a c (.ex x) && chk b c (.ex y) && chk d c (.ex z) && !isSet z
    | _ => false
  | .and a b, c, q => match q with
    | .ex (.BoolOp .And (x :: y :: []) _) => chk a c (.ex x) && chk b c (.ex y)
    | .ex (.BoolOp .And (x :: y :: z :: r) pos) => chk a c (.ex x) && chk b c (.ex (.BoolOp .And (y :: z :: r) pos))
    | _ => false
  | .or a b, c, q => match q with
    | .ex (.BoolOp .Or (x :: y :: []) _) => chk a c (.ex x) && chk b c (.ex y)
    | .ex (.BoolOp .Or (x :: y :: z :: r) pos) => chk a c (.ex x) && chk b c (.ex (.BoolOp .Or (y :: z :: r) pos))
    | _ => false
  | .ife t a b, c, q => match q with
    | .ex (.IfExp z x y _) => chk t c (.ex z) && chk a c (.ex x) && chk b c (.ex y)
    | _ => false
  | .sub a i, c, q => match q with
    | .ex (.Subscript x y _) => chk a c (.ex x) && chk i c (.ex y) && !isSlice y
    | _ => false
  | .slc a lo hi, c, q => match q with
    | .ex (.Subscript x (.Slice l h none _) _) => chk a c (.ex x) && (match l with | none => isNilT lo | some e => chk lo c (.ex e)) && (match h with | none => isNilT hi | some e => chk hi c (.ex e))
    | _ => false
  | .rev _, _, _ => false
  | .sdf _ _ _, _, _ => false
  | .call f es, c, q => match q with
    | .ex (.Call (.Name x _) l [] _) => gl c x && c.fs[f]? == some x && chk es c (.es l) && !(x == ("__debug__" : PySem.Str)) && l.all (fun e => !isStar e)
    | _ => false
  | .blt f es, c, q => match q with
    | .ex (.Call (.Name x _) l [] _) => gl c x && x == bltName f && chk es c (.es l) && !l.isEmpty && l.all (fun e => !isStar e) && (bltOk f || (c.gd && (match f with | .repr => true | _ => false))) ||
       (match f, l with
        | .isi t, [e, .Name y _] => gl c x && x == ("isinstance" : PySem.Str) && gl c y && y == tyName t && (match t with | .cls _ => false | _ => true) && chk es c (.e1 e) && !isStar e
        | _, _ => false)
    | _ => false
  | .met m o es, c, q => match q with
    | .ex (.Call (.Attribute x name apos) l [] cpos) => name == mthName m && chk o c (.ex x) && chk es c (.es l) && !l.isEmpty && l.all (fun e => !isStar e) && decide (l.length < 29) && !isCall x && apos.endLine == cpos.line && (match m with | .append => true | _ => false)
    | _ => false
  | .lc own elt cl, c, q => match q with
    | .ex (.ListComp x gens scope pos) => blkC c.N c.scope scope (ownOf c own) && chk elt (c.inner scope) (.ex x) && chk cl c (.c1 (.ListComp x gens scope pos) (c.inner scope))
    | _ => false
  | .sc _ _ _, _, _ => false
  | .dc _ _ _ _, _, _ => false
  | .cz, c, q => match q with
    | .cl C k => (clausesOf C)[k + 1]?.isNone
    | _ => false
  | .cl tg it ifs rest, c, q => match q with
    | .cl C k => c.blk && isComp C && nextOk C k && nextOk C (k + 1) && (match (clausesOf C)[k + 1]? with
      | some g => g.is_async == 0 && chk it c (.it g.target g.iter) && chk tg c (.tg g.target) && chk ifs c (.ts g.ifs) && chk rest c (.cl C (k + 1))
      | none => false)
    | .c1 C c' => c'.blk && isComp C && nextOk C 0 && (match clausesOf C with
      | g :: _ => g.is_async == 0 && !isSet g.iter && chk it c (.it g.target g.iter) && chk tg c' (.tg g.target) && chk ifs c' (.ts g.ifs) && chk rest c' (.cl C 0)
      | [] => false)
    | _ => false
  | .itr a, c, q => match q with
    | .it _ e => chk a c (.ex e)
    | _ => false
  | .rng es, c, q => match q with
    | .it _ (.Call (.Name x _) l [] _) => gl c x && x == ("range" : PySem.Str) && chk es c (.es l) && l.all (fun e => !isStar e) && (match es, l with
        | .cons _ .nil, [_] => true
        | .cons _ (.cons _ .nil), [_, _] => true
        | _, _ => false)
    | _ => false
  | .zip _, _, _ => false
  | .enu _, _, _ => false
  | .itm _, _, _ => false
  | .vls _, _, _ => false
  | .srt _ _ _, _, _ => false
  | .tvar own i, c, q => match q with
    | .tg (.Name x _) => c.N[i]? == some x && stor c x
    | _ => false
  | .ttup ts, c, q => match q with
    | .tg (.Tuple l _ _) => chk ts c (.tgs l) && decide (ts.len = l.length) && l.all (fun e => !isStar e)
    | _ => false
  | .tstr _ _ _, _, _ => false
  | .tsub o i, c, q => match q with
    | .tg (.Subscript x y _) => chk o c (.ex x) && chk i c (.ex y) && !isSlice y
    | _ => false
  | .asg tg e, c, q => match q with
    | .st (.Assign [t] v _) => chk e c (.ex v) && (match tg, t with
        | .tvar _ i, .Name x py => c.N[i]? == some x && stor c x && (match v with
          | .ListComp _ gens scope pos => (match gens with | ⟨_, _, _, 0⟩ :: _ => true | _ => false)
          | _ => !isCmp v)
        | .ttup _, _ => chk tg c (.tg t) && !isName t && !(isTupE t && isTupE v) && !isStar t
        | .tsub _ _, _ => chk tg c (.tg t) && !isName t && !(isTupE t && isTupE v) && !isStar t
        | _, _ => false)
    | _ => false
  | .exp e, c, q => match q with
    | .st (.Expr v _) => chk e c (.ex v) && !isCmp v
    | _ => false
  | .ret e, c, q => match q with
    | .st (.Return (some v) _) => chk e c (.ex v)
    | _ => false
  | .retn, c, q => match q with
    | .st (.Return none _) => true
    | _ => false
  | .ifs t a b, c, q => match q with
    | .st (.If z x y _) => chk t c (.ex z) && chk a c (.ss x) && chk b c (.ss y)
    | _ => false
  | .for wip tg it b, c, q => match q with
    | .st (.For t i l [] _) => !c.blk && chk tg c (.tg t) && chk it c (.it t i) && chk b c (.ss l) && !isSet i
    | _ => false
  | .whl wip t b, c, q => match q with
    | .st (.While z l [] _) => !c.blk && chk t c (.ex z) && chk b c (.ss l)
    | _ => false
  | .pas, c, q => match q with
    | .st (.Pass _) => true
    | .st (.Expr (.Constant (.str _) _ _) _) => true
    | _ => false
end Iv

/-! Iv: the one induction. -/
namespace Iv
open PySem PySem.Spec PyProof.Rows L2

def bltNames : List PySem.Str := ["len", "sum", "abs", "int", "str", "min", "max", "all", "list", "tuple", "repr", "isinstance", "sorted", "dict", "set", "range", "zip", "enumerate", "bool"]
structure Ok (c : Cz) (p : Pm) (X : Cx) (G : Gam) : Prop where
  hK : p.K = X.K
  calm : X.calm = true
  hN : X.N = c.N
  nd : c.N.Nodup
  sc : X.env.scope = c.scope
  kind : X.env.scope.kind = .function
  fn : ∀ x, stor c x = true → X.fn x = true ∨ X.env.scope.names.lookup x = some .local
  un : X.A.units + 80 < cLine
  ps : c.blk = false → PassesOwn (model X.prog X.w) X.A X.env X.xe
  xe : c.blk = true → X.xe = fun _ _ => False
  gd : c.gd = true → X.A.guards = some []
  blt : ∀ x ∈ bltNames, X.mg x = none
  cs : ∀ x n, c.cs.lookup x = some n → ∃ t, X.mg x = some (.int n t)
  fns : ∀ (i : Nat) (x : PySem.Str), c.fs[i]? = some x → ∃ f fd ps k, X.mg x = some (.ref f) ∧ PySem.W.keepIn X.K (.ref f) = true ∧ Binds X.K fd ps [] ∧ Room k X.A ∧ FnOk X.prog X.w X.K X.mg X.base CX0 k f fd ps (spG p G i)
def GoodE (p : Pm) (X : Cx) (e : Expr) (f : Ev) : Prop := JE p X e f ∧ JT p X e (tst f) ∧ (isBop e = true → JTw p X e (tst f)) ∧ JLc p X e f
def Good (t : T) (c : Cz) : Q → Prop
  | .ex e => ∀ p X G, Ok c p X G → GoodE p X e (den G t).ev
  | .e1 e => ∀ p X G, Ok c p X G → ∃ f, (den G t).evs = consE f nilE ∧ JE p X e f
  | .es l => ∀ p X G, Ok c p X G → JA p X l (den G t).evs ∧ (∀ env M rs env1 M1, (den G t).evs env M = .ok rs env1 M1 → rs.length = l.length)
  | .tg e => ∀ p X G, Ok c p X G → JG p X e (den G t).tk
  | .tgs l => ∀ p X G, Ok c p X G → JGs p X l (den G t).tks
  | .it tg e => ∀ p X G, Ok c p X G → JI p X tg e (den G t).it
  | .ts l => ∀ p X G, Ok c p X G → JTs p X l (den G t).ts
  | .cl C k => ∀ p X G AO emit, Ok c p X G → (∀ k', (clausesOf C)[k' + 1]? = none → JK p X AO C k' emit) → JK p X AO C k ((den G t).cl emit)
  | .c1 C c' => ∀ tg it ifs rest, t = .cl tg it ifs rest → ∃ t1 i1 l1 gs, clausesOf C = ⟨t1, i1, l1, 0⟩ :: gs ∧ isSet i1 = false ∧ (∀ env, NextOk C 0 env) ∧
      (∀ p X G, Ok c p X G → JI p X t1 i1 (den G it).it) ∧ (∀ p X G, Ok c' p X G → JG p X t1 (den G tg).tk ∧ JTs p X l1 (den G ifs).ts ∧
        ∀ AO emit, (∀ k', (clausesOf C)[k' + 1]? = none → JK p X AO C k' emit) → JK p X AO C 0 ((den G rest).cl emit))
  | .st s => ∀ p X G, Ok c p X G → JS p X s (den G t).ex
  | .ss l => ∀ p X G, Ok c p X G → JSs p X l (den G t).ex
section
variable {p : Pm} {X : Cx} {c : Cz} {G : Gam} {e : Expr} {f : Ev}
theorem JLc.none (h : isCmp e = false) : JLc p X e f := by
  cases e <;> first | trivial | cases h
theorem valE_bop {e : Expr} (h : valE e = true) : isBop e = false := by
  cases e <;> first | rfl | cases h
theorem goodV (hK : p.K = X.K) (h : JE p X e f) (hv : valE e = true) (hc : isCmp e = false) : GoodE p X e f :=
  ⟨h, jt_val hK h (true_ok hv), (fun hb => by cases e <;> first | (cases hb; done) | cases hv), JLc.none hc⟩
theorem goodT (h : JE p X e f) (ht : JTw p X e (tst f)) (hc : isCmp e = false) : GoodE p X e f := ⟨h, ht.jt, fun _ => ht, JLc.none hc⟩
theorem vis_ok {x : PySem.Str} (o : Ok c p X G) (h : vis c x = true) : Vis X.env.scope x := by
  rw [o.sc]
  unfold vis at h
  split at h
  · exact .inl (by assumption)
  · exact .inr (.inl (by assumption))
  · exact .inr (.inr (by assumption))
  · cases h
theorem loc_ok {x : PySem.Str} (o : Ok c p X G) (h : stor c x = true) : Loc X.env.scope x := by
  rw [o.sc]
  unfold stor at h
  simp only [Bool.and_eq_true] at h
  have h := h.1
  unfold locl at h
  split at h
  · exact .inl (by assumption)
  · exact .inr (by assumption)
  · cases h
theorem gl_ok {x : PySem.Str} (o : Ok c p X G) (h : gl c x = true) : Gl X x := by
  unfold gl at h
  show X.env.scope.names.lookup x = _
  rw [o.sc]
  split at h
  · assumption
  · cases h
theorem slot_ok {i : Nat} {x : PySem.Str} (o : Ok c p X G) (h : (c.N[i]? == some x) = true) : X.N[i]? = some x := by
  rw [o.hN]; simpa using h
theorem ops_in (hK : p.K = X.K) (hu : X.A.units + 80 < cLine) : OpS p X (compareOp .In) (fun M v w => (cmpO M .mem v w).map fun c => .val (.bl c)) := ops_bool fun _ _ _ _ _ _ _ _ _ _ _ _ _ _ _ I rel ha hb rx ry e q => mem_go (neg := false) hK hu I rel ha hb rx ry e q
theorem ops_nin (hK : p.K = X.K) (hu : X.A.units + 80 < cLine) : OpS p X (compareOp .NotIn) (fun M v w => (cmpO M .nmem v w).map fun c => .val (.bl c)) := ops_bool fun _ _ _ _ _ _ _ _ _ _ _ _ _ _ _ I rel ha hb rx ry e q => by
  obtain ⟨t, e1, rfl⟩ := Option.map_eq_some_iff.mp e
  exact mem_go (neg := true) hK hu I rel ha hb rx ry e1 q
theorem opc_ok (o : Ok c p X G) (op : Cop) : OpC p X (copOf op) op := by
  have h64 : X.A.units + 64 < cLine := by have := o.un; omega
  cases op with
  | eq => exact ops_eq o.hK h64
  | ne => exact ops_ne o.hK h64
  | lt => exact ops_lt o.hK h64
  | le => exact ops_le
  | gt => exact ops_gt
  | ge => exact ops_ge
  | is => exact ops_is
  | nis => exact ops_nis
  | mem => exact ops_in o.hK o.un
  | nmem => exact ops_nin o.hK o.un
theorem opb_ok (o : Ok c p X G) (op : Bop) (h : opNe op = true) : OpS p X (binaryOp (bopOf op)) (fun _ => binO op) := by
  cases op with
  | add => exact ops_add o.hK
  | sub => exact ops_sub
  | mul => exact ops_mul o.hK
  | fdiv => exact ops_fdiv
  | mod => exact ops_mod
  | pow => exact ops_pow
  | xor => cases h
theorem marks_ok {op : CmpOp} (h : isSet e = false) : behindInMarks op e = false := by
  cases e <;> first | rfl | cases h
theorem marks2_ok {o1 o2 : CmpOp} {a : Expr} (h : isSet e = false) : lastMarks [o1, o2] [a, e] = false := marks_ok h
/-- the facts within a block -/
theorem Ok.blk (o : Ok c p X G) {scope : Scope} {own : List (PySem.Str × Nat)} (b : BlkOk X.N X.env.scope scope own) (s : Shared) (H : Hp) (C : Addr) (cl : List (PySem.Str × Addr)) (fp : List Addr) : Ok (c.inner scope) p.blk (X.blk s H scope (compEnvC scope cl C X.env) fp) G where
  hK := o.hK
  calm := o.calm
  hN := o.hN
  nd := o.nd
  sc := by
    show relS scope X.env.scope = relS scope c.scope
    rw [o.sc]
  kind := b.kind
  fn := fun x h => by
    unfold stor at h
    simp only [Bool.and_eq_true] at h
    have h := h.2
    change locl scope x = true at h
    unfold locl at h
    split at h
    · rename_i e
      exact .inr (lookup_relS_keep (by decide) e)
    · rename_i e
      left
      show (scope.names.lookup x == some .cell) = true
      rw [e]; rfl
    · cases h
  un := o.un
  ps := fun h => by cases h
  xe := fun _ => rfl
  gd := o.gd
  blt := o.blt
  cs := o.cs
  fns := o.fns
theorem next_ok {C : Expr} {k : Nat} (h : nextOk C k = true) (env : PySem.Env) : NextOk C k env := by
  unfold nextOk at h
  unfold NextOk
  generalize (clausesOf C)[k + 1]? = o at h ⊢
  cases o with
  | none => trivial
  | some g =>
    have h : (g.is_async == 0 && !isSet g.iter) = true := h
    simp only [Bool.and_eq_true, Bool.not_eq_true', beq_iff_eq] at h
    exact ⟨h.1, folded_ok h.2⟩
theorem blt_ok (o : Ok c p X G) {fb : Blt} (h : (bltOk fb || (c.gd && (match fb with | .repr => true | _ => false))) = true) : (∃ id, bootBuiltins (bltName fb) = some (.builtin id) ∧ OpB p X (.builtin id) (bltO fb)) ∨ ∃ T, bootBuiltins (bltName fb) = some (.type T) ∧ OpB p X (.type T) (bltO fb) := by
  cases fb with
  | len => exact .inl ⟨"len", by decide +kernel, opB_len o.hK⟩
  | sum => exact .inl ⟨"sum", by decide +kernel, opB_sum o.hK o.calm⟩
  | abs => exact .inl ⟨"abs", by decide +kernel, opB_abs⟩
  | int => exact .inr ⟨"int", by decide +kernel, opB_int⟩
  | str => exact .inr ⟨"str", by decide +kernel, opB_str⟩
  | min => exact .inl ⟨"min", by decide +kernel, opB_min o.calm⟩
  | max => exact .inl ⟨"max", by decide +kernel, opB_max o.calm⟩
  | all => exact .inl ⟨"all", by decide +kernel, opB_all o.hK o.calm⟩
  | list => exact .inr ⟨"list", by decide +kernel, opB_list o.hK⟩
  | tuple => exact .inr ⟨"tuple", by decide +kernel, opB_tuple o.hK⟩
  | repr => exact .inl ⟨"repr", by decide +kernel, opB_repr o.hK (o.gd (by simpa [bltOk] using h)) o.un⟩
  | isi t => simp [bltOk] at h
  | sorted => simp [bltOk] at h
  | dict => simp [bltOk] at h
  | set => simp [bltOk] at h
theorem bltName_ne : ∀ fb : Blt, bltName fb ≠ "__name__" ∧ (bltName fb == ("__debug__" : PySem.Str)) = false ∧ bltName fb ∈ bltNames := fun fb => by
  cases fb with
  | isi t => exact (by decide +kernel : ("isinstance" : PySem.Str) ≠ "__name__" ∧ (("isinstance" : PySem.Str) == ("__debug__" : PySem.Str)) = false ∧ ("isinstance" : PySem.Str) ∈ bltNames)
  | _ => decide +kernel
theorem tyName_ne : ∀ t : Ty, (∀ c, t ≠ .cls c) → tyName t ≠ "__name__" ∧ (tyName t == ("__debug__" : PySem.Str)) = false ∧ tyName t ∈ bltNames ∧ bootBuiltins (tyName t) = some (.type t.name) := fun t h => by
  cases t with
  | cls c => exact absurd rfl (h c)
  | _ => decide +kernel
end
theorem chk_ok : ∀ (t : T) (c : Cz) (q : Q), chk t c q = true → Good t c q := by
  intro t
  induction t with
  | nil =>
    intro c q h
    simp only [chk] at h
    split at h
    · exact fun p X G o => ⟨ja_nil, fun env M rs env1 M1 e => by cases e; rfl⟩
    · exact fun p X G o => jgs_nil
    · exact fun p X G o => jts_nil
    · exact fun p X G o => jss_nil
    · cases h
  | cons a b iha ihb =>
    intro c q h
    simp only [chk] at h
    split at h
    · simp only [Bool.and_eq_true, Bool.not_eq_true'] at h
      intro p X G o
      obtain ⟨h1, h2⟩ := ihb c _ h.1.2 p X G o
      exact ⟨ja_cons (iha c _ h.1.1 p X G o).1 h1 (star_cons h.2), cons_len h2⟩
    · simp only [Bool.and_eq_true] at h
      intro p X G o
      have hb : b = .nil := by cases b <;> first | rfl | (have := h.2; cases this)
      subst hb
      exact ⟨_, rfl, (iha c _ h.1 p X G o).1⟩
    · simp only [Bool.and_eq_true, Bool.not_eq_true'] at h
      exact fun p X G o => jgs_cons (iha c _ h.1.1 p X G o) (ihb c _ h.1.2 p X G o) (asg_cons h.2)
    · simp only [Bool.and_eq_true] at h
      intro p X G o
      have hb : b = .nil := by cases b <;> first | rfl | (have := h.2; cases this)
      subst hb
      exact jts_one (iha c _ h.1 p X G o).2.1
    · simp only [Bool.and_eq_true] at h
      exact fun p X G o => jss_cons (iha c _ h.1 p X G o) (ihb c _ h.2 p X G o)
    · cases h
  | var i =>
    intro c q h
    simp only [chk] at h
    split at h
    · simp only [nameOk, Bool.and_eq_true, Bool.not_eq_true'] at h
      exact fun p X G o => goodV o.hK (je_var (slot_ok o h.1.1.1) (vis_ok o h.1.1.2) h.1.2 h.2) rfl rfl
    · cases h
  | int n =>
    intro c q h
    simp only [chk] at h
    split at h
    · have e := eq_of_beq h
      subst e
      exact fun p X G o => goodV o.hK je_int rfl rfl
    · cases h
  | bl n =>
    intro c q h
    simp only [chk] at h
    split at h
    · have e := eq_of_beq h
      subst e
      exact fun p X G o => goodV o.hK je_bl rfl rfl
    · cases h
  | non =>
    intro c q h
    simp only [chk] at h
    split at h
    · exact fun p X G o => goodV o.hK je_non rfl rfl
    · cases h
  | str n =>
    intro c q h
    simp only [chk] at h
    split at h
    · have e := eq_of_beq h
      subst e
      exact fun p X G o => goodV o.hK je_str rfl rfl
    · cases h
  | con d =>
    intro c q h
    simp only [chk] at h
    split at h
    · simp only [Bool.and_eq_true, Bool.not_eq_true', beq_iff_eq] at h
      intro p X G o
      obtain ⟨t, ht⟩ := o.cs _ _ h.1.2
      exact goodV o.hK (je_con (pe_glob (gl_ok o h.1.1) ht (v := .int _) ⟨t, rfl⟩ h.2) fun _ _ => .int _) rfl rfl
    · cases h
  | tup es ih =>
    intro c q h
    simp only [chk] at h
    split at h
    · exact fun p X G o => goodV o.hK (je_tup (ih c _ h p X G o).1) rfl rfl
    · cases h
  | lst es ih =>
    intro c q h
    simp only [chk] at h
    split at h
    · exact fun p X G o => goodV o.hK (je_lst (ih c _ h p X G o).1) rfl rfl
    · cases h
  | dic ps ih => intro c q h; simp only [chk] at h; cases h
  | alc a ih =>
    intro c q h
    simp only [chk] at h
    split at h
    · simp only [Bool.and_eq_true] at h
      intro p X G o
      have g := ih c _ h.1 p X G o
      exact ⟨je_alc g.1, jt_val o.hK (je_alc g.1) (true_ok h.2), (fun hb => by rw [valE_bop h.2] at hb; cases hb), g.2.2.2.alc⟩
    · cases h
  | bin op a b iha ihb =>
    intro c q h
    simp only [chk] at h
    split at h
    · simp only [Bool.and_eq_true, decide_eq_true_eq] at h
      obtain ⟨⟨⟨rfl, h2⟩, h3⟩, h4⟩ := h
      exact fun p X G o => goodV o.hK (je_bin (opb_ok o op h2) (iha c _ h3 p X G o).1 (ihb c _ h4 p X G o).1) rfl rfl
    · cases h
  | neg a ih =>
    intro c q h
    simp only [chk] at h
    split at h
    · exact fun p X G o => goodV o.hK (je_neg (ih c _ h p X G o).1) rfl rfl
    · cases h
  | not a ih =>
    intro c q h
    simp only [chk] at h
    split at h
    · exact fun p X G o => goodT (je_not o.hK (ih c _ h p X G o).1) (jt_notE (ih c _ h p X G o).2.1) rfl
    · cases h
  | cmp op a b iha ihb =>
    intro c q h
    simp only [chk] at h
    split at h
    · simp only [Bool.and_eq_true, decide_eq_true_eq, Bool.not_eq_true'] at h
      obtain ⟨⟨⟨rfl, h2⟩, h3⟩, h4⟩ := h
      exact fun p X G o => goodT (je_cmp (opc_ok o op) (iha c _ h2 p X G o).1 (ihb c _ h3 p X G o).1 (marks_ok h4)) (jt_cmp o.hK (opc_ok o op) (iha c _ h2 p X G o).1 (ihb c _ h3 p X G o).1 (marks_ok h4)) rfl
    · cases h
  | chn o1 o2 a b d iha ihb ihd =>
    intro c q h
    simp only [chk] at h
    split at h
    · simp only [Bool.and_eq_true, decide_eq_true_eq, Bool.not_eq_true'] at h
      obtain ⟨⟨⟨⟨⟨rfl, rfl⟩, h3⟩, h4⟩, h5⟩, h6⟩ := h
      exact fun p X G o => goodT (je_chn (opc_ok o o1) (opc_ok o o2) (iha c _ h3 p X G o).1 (ihb c _ h4 p X G o).1 (ihd c _ h5 p X G o).1 (marks2_ok h6)) (jt_chn o.hK (opc_ok o o1) (opc_ok o o2) (iha c _ h3 p X G o).1 (ihb c _ h4 p X G o).1 (ihd c _ h5 p X G o).1 (marks2_ok h6)) rfl
    · cases h
  | and a b iha ihb =>
    intro c q h
    simp only [chk] at h
    split at h
    · simp only [Bool.and_eq_true] at h
      exact fun p X G o => goodT (je_and o.hK (iha c _ h.1 p X G o).1 (je_one (ihb c _ h.2 p X G o).1)) (jt_and (iha c _ h.1 p X G o).2.1 (jt_one (ihb c _ h.2 p X G o).2.1)) rfl
    · simp only [Bool.and_eq_true] at h
      exact fun p X G o => goodT (je_and o.hK (iha c _ h.1 p X G o).1 (ihb c _ h.2 p X G o).1) (jt_and (iha c _ h.1 p X G o).2.1 ((ihb c _ h.2 p X G o).2.2.1 rfl)) rfl
    · cases h
  | or a b iha ihb =>
    intro c q h
    simp only [chk] at h
    split at h
    · simp only [Bool.and_eq_true] at h
      exact fun p X G o => goodT (je_or o.hK (iha c _ h.1 p X G o).1 (je_one (ihb c _ h.2 p X G o).1)) (jt_or (iha c _ h.1 p X G o).2.1 (jt_one (ihb c _ h.2 p X G o).2.1)) rfl
    · simp only [Bool.and_eq_true] at h
      exact fun p X G o => goodT (je_or o.hK (iha c _ h.1 p X G o).1 (ihb c _ h.2 p X G o).1) (jt_or (iha c _ h.1 p X G o).2.1 ((ihb c _ h.2 p X G o).2.2.1 rfl)) rfl
    · cases h
  | ife t a b iht iha ihb =>
    intro c q h
    simp only [chk] at h
    split at h
    · simp only [Bool.and_eq_true] at h
      exact fun p X G o => goodT (je_ife (iht c _ h.1.1 p X G o).2.1 (iha c _ h.1.2 p X G o).1 (ihb c _ h.2 p X G o).1) (jt_ife (iht c _ h.1.1 p X G o).2.1 (iha c _ h.1.2 p X G o).2.1 (ihb c _ h.2 p X G o).2.1) rfl
    · cases h
  | sub a i iha ihi =>
    intro c q h
    simp only [chk] at h
    split at h
    · simp only [Bool.and_eq_true, Bool.not_eq_true'] at h
      exact fun p X G o => goodV o.hK (je_sub o.hK (iha c _ h.1.1 p X G o).1 (ihi c _ h.1.2 p X G o).1 (plain_ok h.2)) rfl rfl
    · cases h
  | slc a lo hi iha ihl ihh =>
    intro c q h
    simp only [chk] at h
    split at h
    · simp only [Bool.and_eq_true] at h
      intro p X G o
      have part : ∀ (t : T) (l : Option Expr), (∀ c q, chk t c q = true → Good t c q) → (match l with | none => isNilT t | some e => chk t c (.ex e)) = true → JO p X l (den G t).ev := fun t l ih h => by
        cases l with
        | none =>
          have ht : t = .nil := by cases t <;> first | rfl | cases h
          subst ht
          exact jo_none
        | some e => exact jo_some (ih c _ h p X G o).1
      exact goodV o.hK (je_slc o.hK (iha c _ h.1.1 p X G o).1 (part _ _ ihl h.1.2) (part _ _ ihh h.2)) rfl rfl
    · cases h
  | rev a ih => intro c q h; simp only [chk] at h; cases h
  | sdf a b d iha ihb ihd => intro c q h; simp only [chk] at h; cases h
  | call f es ih =>
    intro c q h
    simp only [chk] at h
    split at h
    · rename_i x pp l pos
      simp only [Bool.and_eq_true, Bool.not_eq_true', beq_iff_eq] at h
      obtain ⟨⟨⟨⟨h1, h2⟩, h3⟩, h4⟩, h5⟩ := h
      intro p X G o
      obtain ⟨fa, fd, ps, k, m1, m2, m3, m4, m5⟩ := o.fns f x h2
      have cx : ∀ σ, PassesAt CX0 X σ (fun c d H => p.W c d σ H) := fun σ pins H s e s' I z => z.elim
      cases l with
      | nil =>
        have he : (den G es).evs = nilE := by
          cases es <;> first | rfl | (simp only [chk] at h3; cases h3)
        refine goodV o.hK ?_ rfl rfl
        show JE p X _ (callE G f (den G es).evs)
        rw [he]
        exact je_call0 m5 m4 (gl_ok o h1) m1 m2 m3 cx h4
      | cons e es' =>
        simp only [List.all_cons, Bool.and_eq_true, Bool.not_eq_true'] at h5
        exact goodV o.hK (je_call m5 m4 (gl_ok o h1) m1 m2 m3 cx (ih c _ h3 p X G o).1 h4 (star_cons h5.1) (noStar_any h5.2)) rfl rfl
    · cases h
  | blt f es ih =>
    intro c q h
    unfold chk at h
    split at h
    · rename_i x pp l pos
      rw [Bool.or_eq_true] at h
      rcases h with h | h
      · rw [Bool.and_eq_true] at h
        obtain ⟨h, hb⟩ := h
        simp only [Bool.and_eq_true, beq_iff_eq] at h
        obtain ⟨⟨⟨⟨h1, h2⟩, h3⟩, h4⟩, h5⟩ := h
        subst h2
        intro p X G o
        obtain ⟨n1, n2, n3⟩ := bltName_ne f
        cases l with
        | nil => cases h4
        | cons e es' =>
          simp only [List.all_cons, Bool.and_eq_true, Bool.not_eq_true'] at h5
          rcases blt_ok o hb with ⟨id, b1, b2⟩ | ⟨T, b1, b2⟩
          · exact goodV o.hK (je_bltB b2 (gl_ok o h1) (o.blt _ n3) b1 (ih c _ h3 p X G o).1 n1 n2 (star_cons h5.1) (noStar_any h5.2)) rfl rfl
          · exact goodV o.hK (je_bltT b2 (gl_ok o h1) (o.blt _ n3) b1 (ih c _ h3 p X G o).1 n1 n2 (star_cons h5.1) (noStar_any h5.2)) rfl rfl
      · split at h
        · rename_i t e y py
          simp only [Bool.and_eq_true, beq_iff_eq, Bool.not_eq_true'] at h
          obtain ⟨⟨⟨⟨⟨⟨h1, rfl⟩, h3⟩, rfl⟩, h5⟩, h6⟩, h7⟩ := h
          have nc : ∀ k, t ≠ .cls k := fun k e => by subst e; cases h5
          intro p X G o
          obtain ⟨t1, t2, t3, t4⟩ := tyName_ne t nc
          have hs2 : starEach [.Name (tyName t) py] X.env = [(false, eval (.Name (tyName t) py) X.env)] := star_cons rfl
          obtain ⟨fe, ee, je⟩ := ih c _ h6 p X G o
          refine goodV o.hK ?_ rfl rfl
          show JE p X _ (bltE (.isi t) (den G es).evs)
          rw [ee]
          exact je_isi o.hK rfl nc (gl_ok o h1) (o.blt _ (by decide +kernel)) (by decide +kernel) (gl_ok o h3) (o.blt _ t3) t4 t1 t2 je (by rw [star_cons h7, hs2]) hs2 (noStar_any rfl)
        · cases h
    · cases h
  | met m ob es iho ihe =>
    intro c q h
    simp only [chk] at h
    split at h
    · rename_i x name apos l cpos
      simp only [Bool.and_eq_true, beq_iff_eq, Bool.not_eq_true', decide_eq_true_eq] at h
      obtain ⟨⟨⟨⟨⟨⟨⟨⟨rfl, h2⟩, h3⟩, h4⟩, h5⟩, h6⟩, h7⟩, h8⟩, h9⟩ := h
      intro p X G o
      cases l with
      | nil => cases h4
      | cons e es' =>
        have h5' := h5
        simp only [List.all_cons, Bool.and_eq_true, Bool.not_eq_true'] at h5'
        have hm : m = .append := by cases m <;> first | rfl | cases h9
        subst hm
        refine goodV o.hK (je_met o.hK (iho c _ h2 p X G o).1 (ihe c _ h3 p X G o).1 (fun k hk => ?_) (base_ok h7) ?_ (by simpa using h8) (star_cons h5'.1) (noStar_any h5'.2)) rfl rfl
        · cases k <;> first | exact ⟨by decide, ms_append⟩ | cases hk
        · rw [Bool.and_eq_true, Bool.and_eq_true]
          refine ⟨⟨noStar_all h5, rfl⟩, ?_⟩
          simp only [List.length_nil, List.isEmpty_nil, if_true, decide_eq_true_eq]
          omega
    · cases h
  | lc own elt cl ihe ihc =>
    intro c q h
    simp only [chk] at h
    split at h
    · rename_i x gens scope pos
      simp only [Bool.and_eq_true] at h
      obtain ⟨⟨h1, h2⟩, h3⟩ := h
      have hcl : ∃ tg it ifs rest, cl = .cl tg it ifs rest := by
        cases cl <;> first | exact ⟨_, _, _, _, rfl⟩ | (simp only [chk] at h3; cases h3)
      obtain ⟨tg, it, ifs, rest, rfl⟩ := hcl
      obtain ⟨t1, i1, l1, gs, hC, hset, hnext, hi, hrest⟩ := ihc c _ h3 tg it ifs rest rfl
      intro p X G o
      have hC : gens = ⟨t1, i1, l1, 0⟩ :: gs := hC
      subst hC
      have ok : BlkOk X.N X.env.scope scope (ownOf c own) := by rw [o.hN, o.sc]; exact blkOk_by h1
      have how : (ownOf c own).map (·.2) = own := (List.map_map ..).trans (List.map_id own)
      have ob := fun (s : Shared) (H : Hp) (C : Addr) (cl : List (PySem.Str × Addr)) (fp : List Addr) => o.blk ok s H C cl fp
      have j : JLc p X (.ListComp x (⟨t1, i1, l1, 0⟩ :: gs) scope pos) (inBlk ((ownOf c own).map (·.2)) (fun env M => ((den G it).it env M).bind fun l env M => if wasOwn env l.2 then .stuck else goCl (den G tg).tk (den G ifs).ts ((den G rest).cl (emitE (den G elt).ev)) l.1 [] env M) (fun l => some (.own (.lst l)))) :=
        jlc_of o.hK o.calm (by rw [o.hN]; exact o.nd) (hi p X G o) ok hnext (fun s H C cl fp => (hrest _ _ _ (ob s H C cl fp)).1) (fun s H C cl fp => (hrest _ _ _ (ob s H C cl fp)).2.1)
          (fun s H C cl fp => (hrest _ _ _ (ob s H C cl fp)).2.2 _ _ fun k' hk' => jk_list rfl hk' (ihe _ _ h2 _ _ _ (ob s H C cl fp)).1) (folded_ok hset)
      rw [how] at j
      have e := je_lc j
      exact ⟨e, jt_val o.hK e (true_ok rfl), (fun hb => by cases hb), j⟩
    · cases h
  | sc own elt cl ihe ihc => intro c q h; simp only [chk] at h; cases h
  | dc own k v cl ihk ihv ihc => intro c q h; simp only [chk] at h; cases h
  | cz =>
    intro c q h
    simp only [chk] at h
    split at h
    · intro p X G AO emit o he
      exact he _ (by simpa using h)
    · cases h
  | cl tg it ifs rest iht ihi ihf ihr =>
    intro c q h
    simp only [chk] at h
    split at h
    · rename_i C k
      simp only [Bool.and_eq_true] at h
      obtain ⟨⟨⟨⟨h1, h2⟩, h3⟩, h4⟩, h5⟩ := h
      intro p X G AO emit o he
      split at h5
      · rename_i g hg
        obtain ⟨t1, i1, l1, ia⟩ := g
        simp only [Bool.and_eq_true, beq_iff_eq] at h5
        obtain ⟨⟨⟨⟨rfl, k2⟩, k3⟩, k4⟩, k5⟩ := h5
        exact jk_more o.hK o.calm (o.xe h1) h2 hg (next_ok h4 _) (ihi c _ k2 p X G o) (iht c _ k3 p X G o) (ihf c _ k4 p X G o) (ihr c _ k5 p X G AO emit o he)
      · cases h5
    · rename_i C c'
      simp only [Bool.and_eq_true] at h
      obtain ⟨⟨⟨h1, h2⟩, h3⟩, h5⟩ := h
      intro tg' it' ifs' rest' e
      cases e
      split at h5
      · rename_i g gs hg
        obtain ⟨t1, i1, l1, ia⟩ := g
        simp only [Bool.and_eq_true, beq_iff_eq, Bool.not_eq_true'] at h5
        obtain ⟨⟨⟨⟨⟨rfl, k1⟩, k2⟩, k3⟩, k4⟩, k5⟩ := h5
        exact ⟨t1, i1, l1, gs, hg, k1, next_ok h3, fun p X G o => ihi c _ k2 p X G o, fun p X G o => ⟨iht c' _ k3 p X G o, ihf c' _ k4 p X G o, fun AO emit he => ihr c' _ k5 p X G AO emit o he⟩⟩
      · cases h5
    · cases h
  | itr a ih =>
    intro c q h
    simp only [chk] at h
    split at h
    · exact fun p X G o => ji_iter o.hK (ih c _ h p X G o).1
    · cases h
  | rng es ih =>
    intro c q h
    simp only [chk] at h
    split at h
    · rename_i tg x pp l pos
      simp only [Bool.and_eq_true, beq_iff_eq] at h
      obtain ⟨⟨⟨⟨h1, rfl⟩, h3⟩, h4⟩, h5⟩ := h
      intro p X G o
      have hm : X.mg "range" = none := o.blt _ (by decide +kernel)
      obtain ⟨ja, jl⟩ := ih c _ h3 p X G o
      split at h5
      · rename_i e1
        have h4 : isStar e1 = false := by simpa using h4
        exact ji_rng ja (fun ta ha => pi_range1 (gl_ok o h1) hm ha (star_cons h4)) jl
      · rename_i e1 e2
        have h4 : isStar e1 = false ∧ isStar e2 = false := by simpa using h4
        exact ji_rng2 ja (fun ta ha => pi_range2 (gl_ok o h1) hm ha (by rw [star_cons h4.1, star_cons h4.2]; rfl) (by rw [star_cons h4.2]; rfl)) jl
      · cases h5
    · cases h
  | zip es ih => intro c q h; simp only [chk] at h; cases h
  | enu e ih => intro c q h; simp only [chk] at h; cases h
  | itm e ih => intro c q h; simp only [chk] at h; cases h
  | vls e ih => intro c q h; simp only [chk] at h; cases h
  | srt e i key ihe ihk => intro c q h; simp only [chk] at h; cases h
  | tvar own i =>
    intro c q h
    simp only [chk] at h
    split at h
    · simp only [Bool.and_eq_true] at h
      exact fun p X G o => jg_name (own := false) (by rw [o.hN]; exact o.nd) (slot_ok o h.1) (loc_ok o h.2) (o.fn _ h.2)
    · cases h
  | ttup ts ih =>
    intro c q h
    simp only [chk] at h
    split at h
    · simp only [Bool.and_eq_true, decide_eq_true_eq] at h
      exact fun p X G o => jg_tup o.hK o.calm (ih c _ h.1.1 p X G o) (asg_len.trans h.1.2.symm) (asg_find h.2)
    · cases h
  | tstr b ts a ih => intro c q h; simp only [chk] at h; cases h
  | tsub ob i iho ihi =>
    intro c q h
    simp only [chk] at h
    split at h
    · rename_i x y pos
      simp only [Bool.and_eq_true, Bool.not_eq_true'] at h
      exact fun p X G o => jg_sub (iho c _ h.1.1 p X G o).1 (ihi c _ h.1.2 p X G o).1 (fun v => by
        have hy := h.2
        cases y <;> first | rfl | cases hy)
    · cases h
  | asg tg e iht ihe =>
    intro c q h
    simp only [chk] at h
    split at h
    · rename_i t v pos
      rw [Bool.and_eq_true] at h
      obtain ⟨h1, h2⟩ := h
      intro p X G o
      have ge := ihe c _ h1 p X G o
      split at h2
      · rename_i own i x py
        simp only [Bool.and_eq_true] at h2
        obtain ⟨⟨k1, k2⟩, k3⟩ := h2
        have set' : swapsWith v (some (.Name x py)) pos.line X.env = pure false → JS p X (.Assign [.Name x py] v pos) (asgE (asgV own i) (den G e).ev) := fun hs =>
          js_set (by rw [o.hN]; exact o.nd) (slot_ok o k1) (loc_ok o k2) ge.1 hs (o.fn _ k2)
        split at k3
        · rename_i elt gens scope lpos
          split at k3
          · rename_i tg1 it1 ifs1 rest1
            cases hsw : (X.env.scope.names.lookup x == some .local && py.line == lpos.line && !(scope.names.any fun (n, k) => n == x && (k == .local || k == .cell))) with
            | false => exact set' (by rw [swaps_lc o.kind, hsw])
            | true =>
              have hl : X.env.scope.names.lookup x = some .local := by
                simp only [Bool.and_eq_true, beq_iff_eq] at hsw
                exact hsw.1.1
              exact js_setLc (by rw [o.hN]; exact o.nd) (slot_ok o k1) hl (by rw [swaps_lc o.kind, hsw]) ge.2.2.2
          · cases k3
        · exact set' (swaps_none (by simpa using k3))
      · simp only [Bool.and_eq_true, Bool.not_eq_true'] at h2
        obtain ⟨⟨⟨k1, k2⟩, k3⟩, k4⟩ := h2
        exact js_asg ge.1 (iht c _ k1 p X G o) (swapsSole_ok k2) (swapped_ok k3) (by rw [asg_cons k4]; rfl)
      · simp only [Bool.and_eq_true, Bool.not_eq_true'] at h2
        obtain ⟨⟨⟨k1, k2⟩, k3⟩, k4⟩ := h2
        exact js_asg ge.1 (iht c _ k1 p X G o) (swapsSole_ok k2) (swapped_ok k3) (by rw [asg_cons k4]; rfl)
      · cases h2
    · cases h
  | exp e ih =>
    intro c q h
    simp only [chk] at h
    split at h
    · simp only [Bool.and_eq_true, Bool.not_eq_true'] at h
      exact fun p X G o => js_expr (ih c _ h.1 p X G o).1 (swaps_none h.2)
    · cases h
  | ret e ih =>
    intro c q h
    simp only [chk] at h
    split at h
    · exact fun p X G o => js_ret (ih c _ h p X G o).1
    · cases h
  | retn =>
    intro c q h
    simp only [chk] at h
    split at h
    · exact fun p X G o => js_retn
    · cases h
  | ifs t a b iht iha ihb =>
    intro c q h
    simp only [chk] at h
    split at h
    · simp only [Bool.and_eq_true] at h
      exact fun p X G o => js_if (iht c _ h.1.1 p X G o).2.1 (iha c _ h.1.2 p X G o) (ihb c _ h.2 p X G o)
    · cases h
  | «for» wip tg it b iht ihi ihb =>
    intro c q h
    simp only [chk] at h
    split at h
    · simp only [Bool.and_eq_true, Bool.not_eq_true'] at h
      exact fun p X G o => js_for o.hK (o.ps h.1.1.1.1) o.calm (ihi c _ h.1.1.2 p X G o) (iht c _ h.1.1.1.2 p X G o) (ihb c _ h.1.2 p X G o) (folded_ok h.2)
    · cases h
  | whl wip t b iht ihb =>
    intro c q h
    simp only [chk] at h
    split at h
    · simp only [Bool.and_eq_true, Bool.not_eq_true'] at h
      exact fun p X G o => js_while (o.ps h.1.1) (iht c _ h.1.2 p X G o).2.1 (ihb c _ h.2 p X G o)
    · cases h
  | pas =>
    intro c q h
    simp only [chk] at h
    split at h
    · exact fun p X G o => js_pass
    · exact fun p X G o => js_doc
    · cases h
end Iv

/-! Iv: the program's defs. -/
namespace Iv
open PySem PySem.Spec PyProof.Rows L2

/-- a def as it is written, and as a term -/
structure Fdef where
  x : PySem.Str
  ps : List PySem.Str
  N : List PySem.Str
  args : Arguments
  body : List Stmt
  scope : Scope
  df : Def
def Fdef.cz (fs : List Fdef) (cs : List (PySem.Str × Int)) (gd : Bool) (f : Fdef) : Cz := ⟨f.N, f.scope, f.scope, false, fs.map (·.x), cs, gd⟩
/-- what is checked of a def -/
structure FdOk (fs : List Fdef) (cs : List (PySem.Str × Int)) (gd : Bool) (f : Fdef) : Prop where
  S : FnScope f.N f.ps f.scope
  chk : chk f.df.body (f.cz fs cs gd) (.ss f.body) = true
  ps : f.df.ps = f.ps.length
  ns : f.df.ns = f.N.length
/-- what is known of the heap -/
structure Heads (K : PySem.W.Frag) (mg : PySem.Str → Option Value) (fs : List Fdef) (cs : List (PySem.Str × Int)) : Prop where
  fn : ∀ f ∈ fs, ∃ fd, FunD K f.x f.x f.args f.body f.scope [] [] (He.ga K f.x) fd ∧ Binds K fd f.ps [] ∧ mg f.x = some (.ref (He.ga K f.x))
  blt : ∀ x ∈ bltNames, mg x = none
  cs : ∀ x n, cs.lookup x = some n → ∃ t, mg x = some (.int n t)
def P0 (w : World) (K : PySem.W.Frag) : Pm := ⟨w, K, fun _ _ _ _ => False, fun _ _ _ _ => False⟩
section
variable {w : World} {K : PySem.W.Frag} {env env1 : Env} {M M1 : Mem} {μ μ1 : List Addr} {σ σ1 : L2.St} {H H1 : Hp} {as : List SV} {vs : List V} {d : Def} {N : List PySem.Str}
theorem app_none {α : Type} {l : List α} {k i : Nat} {x : α} (h : (l.map some ++ List.replicate k none)[i]? = some (some x)) : (l.map some)[i]? = some (some x) := by
  by_cases hi : i < l.length
  · rw [List.getElem?_append_left (by simpa using hi)] at h; exact h
  · rw [List.getElem?_append_right (by simpa using hi)] at h
    obtain ⟨_, e⟩ := List.getElem?_eq_some_iff.mp h
    simp at e
theorem none_app {α : Type} {l : List α} {k i : Nat} {x : α} (h : (l.map some)[i]? = some (some x)) : (l.map some ++ List.replicate k none)[i]? = some (some x) := by
  obtain ⟨hi, _⟩ := List.getElem?_eq_some_iff.mp h
  rw [List.getElem?_append_left hi]; exact h
theorem owned_start {b : Addr} (h : Owned (startE d as) (start N vs) b) : Owned (as.map some) (vs.map some) b := by
  obtain ⟨i, o, e1, e2⟩ := h
  exact ⟨i, o, app_none e1, app_none e2⟩
theorem Rel.start (r : Rel w K (as.map some) M μ (vs.map some) H) (hn : d.ns = N.length) : Rel w K (startE d as) M μ (start N vs) H := by
  have hl : as.length = vs.length := by have := r.len; simpa using this
  refine ⟨by simp [startE, L2.start, hl, hn], fun i d' e => ?_, fun i o e => ?_, fun i o e => ?_, r.mem, r.mlen, r.nd, fun i i' o o' a e1 e2 e3 e4 => r.sep i i' o o' a (app_none e1) (app_none e2) (app_none e3) (app_none e4)⟩
  · obtain ⟨v, h1, h2⟩ := r.val i d' (app_none e)
    exact ⟨v, none_app h1, h2⟩
  · obtain ⟨a, h1, h2⟩ := r.own i o (app_none e)
    exact ⟨a, none_app h1, h2⟩
  · obtain ⟨a, h1, h2, h3, h4⟩ := r.lck i o (app_none e)
    exact ⟨a, none_app h1, h2, h3, fun z => h4 (owned_start z)⟩
theorem nil_get {i : Nat} {x : SV} (h : ([] : Env)[i]? = some (some x)) : False := by simp at h
theorem Rel.nil (r : Rel w K env M μ σ H) : Rel w K [] M μ [] H := ⟨rfl, fun i d e => (nil_get e).elim, fun i o e => (nil_get e).elim, fun i o e => (nil_get e).elim, r.mem, r.mlen, r.nd, fun i i' o o' a e => (nil_get e).elim⟩
theorem Ext.nil (x : Ext (startE d as) μ (start N vs) H env1 μ1 σ1 H1) : Ext (as.map some) μ (vs.map some) H [] μ1 [] H1 :=
  ⟨x.pre, fun b o h n1 n2 => x.keep b o h n1 fun z => n2 (owned_start z), fun b ⟨i, o, e, _⟩ => (nil_get e).elim, fun i o e => (nil_get e).elim, x.fz, x.dom⟩
end
section
variable {P : Program} {w : World} {K : PySem.W.Frag} {mg : PySem.Str → Option Value} {base : Heap} {fs : List Fdef} {cs : List (PySem.Str × Int)}
/-- the body of a def does what its term says -/
theorem body_go {gd : Bool} {n : Nat} {f : Fdef} {cdv : Value} {A : Around} {outer : List PySem.Env} {s : Shared} {H : Hp} {as : List SV} {vs : List V} {Q : VK} {E : XK} {M : Mem} {μ : List Addr} {fa : Addr}
    (hd : Heads K mg fs cs) (ok : FdOk fs cs gd f) (hr : Room n (A.deeper (envOfC f.x f.scope s.heap.objs.size fa cdv))) (hg : gd = true → A.guards = some [])
    (hfn : ∀ (j : Nat) (g : Fdef), fs[j]? = some g → ∀ fd, FunD K g.x g.x g.args g.body g.scope [] [] (He.ga K g.x) fd → FnOk P w K mg base CX0 n (He.ga K g.x) fd g.ps (spG (P0 w K) (call (fs.map (·.df)) n) j))
    (r : Rel w K (as.map some) M μ (vs.map some) H)
    (h : match runDef (call (fs.map (·.df)) n) f.df as M with
      | .stuck => False
      | .ok r _ M' => ∀ v H' μ', Rel w K [] M' μ' [] H' → RRep w K [] μ' [] H' r v → Ext (as.map some) μ (vs.map some) H [] μ' [] H' → (∀ (o : Ob) (a : Addr), r = .own o → v = .ref a → Owned (as.map some) (vs.map some) a ∨ H a = none) → (∀ i, r ≠ .lnd i) → Q v H'
      | .exc x _ M' => ∀ cls d H' μ', Rel w K [] M' μ' [] H' → False → Ext (as.map some) μ (vs.map some) H [] μ' [] H' → E cls d H') :
    ∃ t, PSs (cxOf CX0 P w K mg base f.N f.x f.scope fa cdv A outer s H E) f.body t ∧ t { nx := fun _ H' => Q .non H', rt := Q } (start f.N vs) H := by
  refine ⟨tX (P0 w K) (den (call (fs.map (·.df)) n) f.df.body).ex, PSs.nox ?_, ?_⟩
  · refine chk_ok f.df.body (f.cz fs cs gd) (.ss f.body) ok.chk (P0 w K) _ _ ⟨rfl, rfl, rfl, ok.S.nd, rfl, ok.S.kind, fun _ _ => .inl rfl, ?_, fun _ => PassesOwn.never, (fun h => by cases h), hg, hd.blt, hd.cs, fun j x hj => ?_⟩
    · have := hr.un
      show (A.deeper _).units + 80 < cLine
      omega
    · have hj : (fs.map (·.x))[j]? = some x := hj
      rw [List.getElem?_map] at hj
      cases e : fs[j]? with
      | none => rw [e] at hj; cases hj
      | some g =>
        rw [e] at hj; cases hj
        obtain ⟨fdg, F, b, m⟩ := hd.fn g (List.mem_of_getElem? e)
        exact ⟨_, fdg, g.ps, n, m, F.kp, b, hr, hfn j g e fdg F⟩
  · refine ⟨startE f.df as, M, μ, r.start ok.ns, ?_⟩
    by_cases hl : (as.length == f.df.ps) = true
    · simp only [runDef, hl, if_true] at h
      generalize (den (call (fs.map (·.df)) n) f.df.body).ex (startE f.df as) M = res at h ⊢
      cases res with
      | stuck => exact h
      | exc x env1 M1 => exact fun cls d σ' H' μ' _ hx => hx.elim
      | ok fl env1 M1 =>
        cases fl with
        | next => exact fun σ1 H1 μ1 g => h .non H1 μ1 g.rel.nil .non g.ext.nil (fun o a e => nomatch e) (fun i e => nomatch e)
        | ret r1 => exact fun v σ1 H1 μ1 g => h v H1 μ1 g.rel.nil g.rep g.ext.nil (fun o a e1 e2 => (g.new o a e1 e2).imp owned_start id) g.nl
    · simp only [runDef, hl, if_false] at h
      exact h.elim
theorem spG_len {p : Pm} {n : Nat} {i : Nat} {f : Fdef} (hi : fs[i]? = some f) (hps : f.df.ps = f.ps.length) (vs : List V) (H : Hp) (Q : VK) (E : XK) (h : spG p (call (fs.map (·.df)) n) i vs H Q E) : vs.length = f.ps.length := by
  obtain ⟨as, M, μ, r, h⟩ := h
  have hl : as.length = vs.length := by have := r.len; simpa using this
  cases n with
  | zero => exact h.elim
  | succ n =>
    simp only [call, List.getElem?_map, hi, Option.map_some] at h
    by_cases hp : (as.length == f.df.ps) = true
    · rw [← hl, ← hps]; simpa using hp
    · simp only [runDef, hp, if_false] at h
      exact h.elim
/-- every def keeps its promise -/
theorem defs_ok (hd : Heads K mg fs cs) (ok : ∀ f ∈ fs, FdOk fs cs false f) : ∀ (n : Nat) (i : Nat) (f : Fdef), fs[i]? = some f → ∀ fd, FunD K f.x f.x f.args f.body f.scope [] [] (He.ga K f.x) fd → FnOk P w K mg base CX0 n (He.ga K f.x) fd f.ps (spG (P0 w K) (call (fs.map (·.df)) n) i)
  | 0, i, f, hi, fd, F => ⟨spG_len hi (ok f (List.mem_of_getElem? hi)).ps, fun A outer s H args us vs Q E hr he hb hv ⟨as, M, μ, r, h⟩ => h.elim⟩
  | n + 1, i, f, hi, fd, F => by
    have o := ok f (List.mem_of_getElem? hi)
    refine F.ok o.S (spG_len hi o.ps) fun cdv A outer s H vs Q E hr h => ?_
    obtain ⟨as, M, μ, r, h⟩ := h
    simp only [call, List.getElem?_map, hi, Option.map_some] at h
    exact body_go hd o hr (fun h => by cases h) (defs_ok hd ok n) r h
end
end Iv

/-! Iv: the law's def, where no repr is under way. -/
namespace Iv
open PySem PySem.Spec PyProof.Rows L2
section
variable {P : Program} {w : World} {K : PySem.W.Frag} {mg : PySem.Str → Option Value} {base : Heap} {fs : List Fdef} {cs : List (PySem.Str × Int)}
/-- the law's def entered at the very outside -/
theorem enter_top {gd : Bool} {n : Nat} {f : Fdef} {fd : FuncData} {s : Shared} {H : Hp} {us : List Value} {as : List SV} {vs : List V} {Q : VK} {E : XK} {M : Mem} {μ : List Addr}
    (F : FunD K f.x f.x f.args f.body f.scope [] [] (He.ga K f.x) fd) (hd : Heads K mg fs cs) (ok : FdOk fs cs gd f)
    (hfn : ∀ (j : Nat) (g : Fdef), fs[j]? = some g → ∀ fd, FunD K g.x g.x g.args g.body g.scope [] [] (He.ga K g.x) fd → FnOk P w K mg base CX0 n (He.ga K g.x) fd g.ps (spG (P0 w K) (call (fs.map (·.df)) n) j))
    (hr : Room (n + 1) callerA) (e0 : Env0 P w K mg base callerA [] s H) (hb : BindsTo s fd ⟨us, []⟩ (f.ps.zip us)) (rv : Vals vs us) (hl : vs.length = f.ps.length) (r : Rel w K (as.map some) M μ (vs.map some) H)
    (h : match runDef (call (fs.map (·.df)) n) f.df as M with
      | .stuck => False
      | .ok r _ M' => ∀ v H' μ', Rel w K [] M' μ' [] H' → RRep w K [] μ' [] H' r v → Ext (as.map some) μ (vs.map some) H [] μ' [] H' → (∀ (o : Ob) (a : Addr), r = .own o → v = .ref a → Owned (as.map some) (vs.map some) a ∨ H a = none) → (∀ i, r ≠ .lnd i) → Q v H'
      | .exc x _ M' => ∀ cls d H' μ', Rel w K [] M' μ' [] H' → False → Ext (as.map some) μ (vs.map some) H [] μ' [] H' → E cls d H') :
    codeAny (model P w) callerA (.call (.ref (He.ga K f.x)) ⟨us, []⟩) (CR CX0 [] P w H s Q E) s := by
  obtain ⟨oc, od, dV, kV, doc, pm, an, cdv, ct, osl, rfl, look, code, _, _⟩ := F.ex
  have inK : K.In s.heap := e0.mod.kin.keeps fun b o e => (e0.bs b o e).1
  have kinds : ∀ y ∈ f.ps.zip us, f.scope.names.lookup y.1 = some .local ∨ (f.scope.names.lookup y.1 = some .cell ∧ ((cellsFrom (s.heap.objs.size + 1) f.scope.names []).lookup y.1).isSome = true) := by
    rintro ⟨y, v⟩ hy
    exact (ok.S.par y (List.of_mem_zip hy).1).imp id fun c => ⟨c, PySem.W.cellsFrom_some _ _ _ (.inl c)⟩
  refine codeAny_call_function hr.depth (inK _ _ look) rfl ok.S.co ok.S.gen rfl (PySem.W.codeRec_of inK code) (hb _ _ _ _ (wpAny_newFunctionEnv_cells ok.S.kind kinds fun env he s1 x => ?_))
  subst he
  refine ⟨(e0.mod.nolimit.keeps fun b o e => (e0.bs b o e).1).keeps x.toInCall.keep, codeAny_func ?_⟩
  obtain ⟨t, ht, hq⟩ := body_go (P := P) (base := base) (cdv := cdv) (A := callerA) (outer := []) (s := s) (fa := He.ga K f.x) (Q := Q) (E := E) hd ok (hr.deeper _) (fun _ => rfl) hfn r h
  have I : Inv (cxOf CX0 P w K mg base f.N f.x f.scope (He.ga K f.x) cdv callerA [] s H E) [] (L2.start f.N vs) H s1 := inv_start ok.S hr.hd e0 hl rv x
  refine thn (ht.run [] s1 _ H _ I hq) fun fl s' hs => ?_
  cases fl with
  | ret u => obtain ⟨v, _, H', J, rw, q⟩ := hs; exact ⟨v, H', J.os, J.bare, J.base, J.hok, rw, q⟩
  | next => obtain ⟨_, H', J, q⟩ := hs; exact ⟨.non, H', J.os, J.bare, J.base, J.hok, rfl, q⟩
  | brk => exact (hs.choose_spec.choose_spec.2).elim
  | cont => exact (hs.choose_spec.choose_spec.2).elim
/-- the state ahead of the law's call: the script alone is told, as a list that is never changed -/
theorem scene {mb : PySem.Str → Option Value} {s : Shared} {a : Addr} {vs : List Value} {ns : List Int} (inK : K.In s.heap) (hm : s.heap.Ns mainGlobals mg) (hb : s.heap.Ns builtinsNs mb) (hbb : ∀ x : PySem.Str, x ≠ "__name__" → mb x = bootBuiltins x) (lim : s.heap.NoLimit) (hg : s.gens = #[])
    (ha : s.heap.get? a = some { cls := .type "list", data := .seq vs.toArray }) (hi : IntsAre vs ns) (hl : ns.length ≤ sizeLine) :
    ∃ H : Hp, Env0 P w K mg (hidT s.heap H) callerA [] s H ∧ K.In (hidT s.heap H) ∧ (hidT s.heap H).Ns mainGlobals mg ∧ FlAt K H a (ns.map V.int) ∧
      ∀ (s' : Shared) (H' : Hp), Un (frs []) [] H H' s.heap s'.heap → HOk P w H' s'.heap → OldK s.heap s'.heap := by
  have iv := vals_ints hi
  have same := hi.length
  have go : ∀ H : Hp, (∀ b u, H b = some u → b = a ∧ u = .frz { cls := .type "list", data := .seq vs.toArray } (.lst (ns.map V.int)) ∧ K.lookup a = none) → FlAt K H a (ns.map V.int) →
      ∃ H : Hp, Env0 P w K mg (hidT s.heap H) callerA [] s H ∧ K.In (hidT s.heap H) ∧ (hidT s.heap H).Ns mainGlobals mg ∧ FlAt K H a (ns.map V.int) ∧
      ∀ (s' : Shared) (H' : Hp), Un (frs []) [] H H' s.heap s'.heap → HOk P w H' s'.heap → OldK s.heap s'.heap := fun H only fl => by
    have free : ∀ {b : Addr} {o : Obj}, s.heap.get? b = some o → (∀ xs n, o.data ≠ .seq xs n) ∨ (∃ o, K.lookup b = some o) → H b = none := fun {b o} e h => by
      cases q : H b with
      | none => rfl
      | some u =>
        obtain ⟨rfl, _, nk⟩ := only b u q
        rcases h with h | ⟨o', h⟩
        · rw [ha] at e; cases e; exact absurd rfl (h _ _)
        · rw [nk] at h; cases h
    have nsB : ∀ {b : Addr} {m : PySem.Str → Option Value}, s.heap.Ns b m → (hidT s.heap H).Ns b m := fun {b m} ⟨o, es, ep, e, d, q⟩ =>
      ⟨o, es, ep, hidT_get e (free e (.inl fun xs n z => by rw [d] at z; cases z)), d, q⟩
    have kb : K.In (hidT s.heap H) := fun b o e => hidT_get (inK b o e) (free (inK b o e) (.inr ⟨o, e⟩))
    refine ⟨H, ⟨rfl, ⟨kb, nsB hm, ⟨mb, nsB hb, hbb⟩, let ⟨mc, h1, h2⟩ := lim; ⟨mc, nsB h1, h2⟩⟩, fun b o e => of_hidT e, Nat.le_of_eq (hidT_size _ _), trivial, fun b z => (by cases z), fun b u q => ?_, .of_eq hg⟩, kb, nsB hm, fl, fun s' H' un hok => OldK.of_keep fun b o e => ?_⟩
    · obtain ⟨rfl, rfl, _⟩ := only b u q
      exact ⟨ha, by rw [List.length_map]; exact hl, vs, _, iv, ha⟩
    · cases q : H b with
      | none => exact un.keep b o e q (fun z => by cases z) (by simp)
      | some u =>
        obtain ⟨rfl, rfl, _⟩ := only b u q
        have z2 := (hok b _ (un.frzs b _ _ q)).1
        rw [ha] at e; cases e
        exact z2
  cases hk : K.lookup a with
  | some o =>
    have e := inK a o hk
    rw [ha] at e; cases e
    exact go (fun _ => none) (fun b u z => by cases z) (.inr ⟨_, vs.toArray, _, hk, rfl, rfl, rfl, by rw [List.size_toArray, same]; exact hl, by simpa using iv⟩)
  | none =>
    refine go (fun b => if b = a then some (.frz { cls := .type "list", data := .seq vs.toArray } (.lst (ns.map V.int))) else none) (fun b u z => ?_) (.inl ⟨_, if_pos rfl⟩)
    have z : (if b = a then some (HO.frz { cls := .type "list", data := .seq vs.toArray } (.lst (ns.map V.int))) else none) = some u := z
    split at z
    · rename_i hb; cases z; exact ⟨hb, rfl, hk⟩
    · cases z
end
theorem encs_ints {w : World} {K : PySem.W.Frag} {H : Hp} {μ : List Addr} : ∀ ns : List Int, Encs w K H μ (ns.map .int) (ns.map V.int)
  | [] => .nil
  | n :: ns => .cons (.int n) (encs_ints ns)
/-- THE END: the law's def tells True of every script -/
theorem walk_top {l : PySem.W.OpenLaw} {n k : Nat} {q : Program} {loose : List PySem.Str} {XP : (PySem.Str → Option Value) → Heap → Prop} {YP : World → Heap → Prop} {d : DefRec} {fs : List Fdef} {cs : List (PySem.Str × Int)} {f : Fdef} {gd : Bool} {x : PySem.Str}
    (hn : l.most = some n) (hn2 : n ≤ sizeLine) (hdf : d.params.defaults = []) (hr : Room (k + 1) callerA) (hps : f.ps = [x]) (hx : d.name = f.x)
    (ok : FdOk fs cs gd f) (oks : ∀ g ∈ fs, FdOk fs cs false g)
    (Y : ∀ (w : World) (mg : PySem.Str → Option Value) (h : Heap), YP w h → h.Ns mainGlobals mg → ∃ K : PySem.W.Frag, K.In h ∧ Heads K mg fs cs ∧ mg f.x = some (.ref (He.ga K f.x)) ∧ ∃ fd, FunD K f.x f.x f.args f.body f.scope [] [] (He.ga K f.x) fd ∧ ∀ (s : Shared) (u : Value), BindsTo s fd ⟨[u], []⟩ [(x, u)])
    (law : ∀ ns : List Int, ns.length ≤ n → ∃ M', runDef (call (fs.map (·.df)) k) f.df [.val (.fl (ns.map .int))] [] = .ok (.val (.bl true)) [] M') :
    PySem.W.WalkO q loose XP YP l.row.toRowW d [] (fun f vs => PySem.call f vs) := by
  refine Att.attach_call hn hdf fun w s₀ s₁ mg mb fa o pm cd doc a vs ns G Y1 ho hd hcd hmg hobj hints hlen hg => ?_
  obtain ⟨K, inK, heads, m, fd, F, hb⟩ := Y w mg s₁.heap Y1 G.T.g
  have e := hmg.symm.trans (hx ▸ m)
  cases e
  obtain ⟨H, e0, kb, nb, fl, old⟩ := scene (P := l.prog) (w := w) inK G.T.g G.T.b G.T.builtins G.T.nolimit hg hobj hints (Nat.le_trans hlen hn2)
  obtain ⟨M', hlaw⟩ := law ns hlen
  have r : Rel w K (([SV.val (.fl (ns.map .int))]).map some) [] [] (([V.ref a]).map some) H := by
    refine ⟨rfl, fun i d e => ?_, fun i o e => ?_, fun i o e => ?_, fun j o e => by simp at e, rfl, List.nodup_nil, fun i i' o o' b e => ?_⟩
    · cases i with
      | zero => simp at e; subst e; exact ⟨_, rfl, .fl fl (encs_ints ns)⟩
      | succ i => simp at e
    · cases i <;> simp at e
    · cases i <;> simp at e
    · cases i <;> simp at e
  have run := enter_top (P := l.prog) (w := w) (base := hidT s₁.heap H) (us := [.ref a]) (vs := [.ref a]) (Q := fun v _ => v = .bl true) (E := fun _ _ _ => False) F heads ok
    (defs_ok heads oks k) hr e0 (by rw [hps]; exact hb s₁ (.ref a)) (.cons rfl .nil) (by rw [hps]; rfl) r (by
      rw [hlaw]
      intro v H' μ' _ h _ _ _
      cases h; rfl)
  try rw [hx]
  refine codeAny_mono run fun r s' hq => ?_
  cases r with
  | error e => exact False.elim hq
  | ok fl =>
    cases fl with
    | next => exact False.elim hq
    | brk => exact False.elim hq
    | cont => exact False.elim hq
    | ret u =>
      obtain ⟨v, H', os, bare, un, hok', r', q⟩ := hq
      have q' : v = .bl true := q
      subst q'
      obtain rfl : u = Value.bool true := r'
      exact ⟨rfl, old s' H' un hok', os, bare⟩
end Iv

/-! Iv: heads. -/
namespace Iv
open PySem PySem.Spec PyProof.Rows L2

def Fdef.dd (f : Fdef) : He.DefD := ⟨(f.x, none), f.x, f.x, f.args, f.body, f.scope, [], []⟩
def BindP (f : Fdef) : Prop := ∀ (kV doc pm : Value) (an : Option Addr) (cdv ct : Value) (us : List Value), us.length = f.ps.length → bindArgs (PySem.W.fnOf f.x f.x f.args f.body f.scope .none kV doc pm an cdv ct) ⟨us, []⟩ = pure (f.ps.zip us)
/-- what the head is asked -/
def hfa (fs : List Fdef) (cs : List (PySem.Str × Int)) : List He.Fa := fs.map (fun f => .glo f.x) ++ (bltNames.map .free ++ cs.map fun q => .int q.1 q.2)
def hfn (fs : List Fdef) : List He.DefD := fs.map Fdef.dd
theorem heads_of {K : PySem.W.Frag} {h : Heap} {mg : PySem.Str → Option Value} {fs : List Fdef} {f : Fdef} {cs : List (PySem.Str × Int)} {x : PySem.Str} (X : K.In h) (G : h.Ns mainGlobals mg) (c : He.SaysD (hfa (fs ++ [f]) cs) (hfn (fs ++ [f])) K) (hb : ∀ g ∈ fs, BindP g) (hbf : BindP f) (hps : f.ps = [x]) :
    Heads K mg fs cs ∧ mg f.x = some (.ref (He.ga K f.x)) ∧ ∃ fd, FunD K f.x f.x f.args f.body f.scope [] [] (He.ga K f.x) fd ∧ ∀ (s : Shared) (u : Value), BindsTo s fd ⟨[u], []⟩ [(x, u)] := by
  have glo : ∀ g ∈ fs ++ [f], mg g.x = some (.ref (He.ga K g.x)) := fun g hg => He.glo_ok X G (c.facts (List.mem_append_left _ (List.mem_map.mpr ⟨g, hg, rfl⟩)))
  have fun_ : ∀ g ∈ fs ++ [f], ∃ fd, FunD K g.x g.x g.args g.body g.scope [] [] (He.ga K g.x) fd := fun g hg => c.defs (d := g.dd) (List.mem_map.mpr ⟨g, hg, rfl⟩)
  refine ⟨⟨fun g hg => ?_, fun y hy => ?_, fun y n hn => ?_⟩, glo f (by simp), ?_⟩
  · obtain ⟨fd, F⟩ := fun_ g (List.mem_append_left _ hg)
    exact ⟨fd, F, F.bindsN (hb g hg), glo g (List.mem_append_left _ hg)⟩
  · exact He.free_ok X G (c.facts (List.mem_append_right _ (List.mem_append_left _ (List.mem_map.mpr ⟨y, hy, rfl⟩))))
  · exact He.int_ok X G (c.facts (List.mem_append_right _ (List.mem_append_right _ (List.mem_map.mpr ⟨(y, n), PySem.mem_of_lookup hn, rfl⟩))))
  · obtain ⟨fd, F⟩ := fun_ f (by simp)
    refine ⟨fd, F, fun s u => ?_⟩
    have b := F.bindsA hbf s [u] (by rw [hps]; rfl)
    rw [hps] at b
    exact b
end Iv

/-! Iv: loops of the interpreter, by invariants. -/
namespace Iv
theorem szl : PySem.sizeLine = 16777216 := rfl
section
variable {tg : D → Env → Mem → Res Unit} {ts : Env → Mem → Res Bool} {rest : List D → Env → Mem → Res (List D)} {b : Env → Mem → Res Flow} {wip : List Nat}
def stepC (tg : D → Env → Mem → Res Unit) (ts : Env → Mem → Res Bool) (rest : List D → Env → Mem → Res (List D)) (x : D) (acc : List D) (env : Env) (M : Mem) : Res (List D) :=
  (tg x env M).bind fun _ env M => (ts env M).bind fun t env M => if t = true then rest acc env M else .ok acc env M
theorem goCl_cons (x : D) (xs acc : List D) (env : Env) (M : Mem) : goCl tg ts rest (x :: xs) acc env M = (stepC tg ts rest x acc env M).bind fun acc env M => goCl tg ts rest xs acc env M := by
  unfold stepC
  rw [goCl]
  cases tg x env M with
  | stuck => rfl
  | exc y e m => rfl
  | ok u env1 M1 =>
    simp only [Res.bind]
    cases ts env1 M1 with
    | stuck => rfl
    | exc y e m => rfl
    | ok t env2 M2 =>
      cases t with
      | false => rfl
      | true => rfl
theorem goCl_inv (I : Nat → List D → Env → Mem → Prop) : ∀ (ds : List D) (k : Nat) (acc : List D) (env : Env) (M : Mem), I k acc env M →
    (∀ i x acc env M, ds[i]? = some x → I (k + i) acc env M → ∃ acc' env' M', stepC tg ts rest x acc env M = .ok acc' env' M' ∧ I (k + i + 1) acc' env' M') →
    ∃ acc' env' M', goCl tg ts rest ds acc env M = .ok acc' env' M' ∧ I (k + ds.length) acc' env' M'
  | [], k, acc, env, M, h0, _ => ⟨acc, env, M, rfl, h0⟩
  | x :: xs, k, acc, env, M, h0, hs => by
    obtain ⟨acc1, env1, M1, e1, h1⟩ := hs 0 x acc env M rfl h0
    obtain ⟨acc2, env2, M2, e2, h2⟩ := goCl_inv I xs (k + 1) acc1 env1 M1 h1 fun i y acc env M hy hi => by
      have := hs (i + 1) y acc env M hy (by rw [show k + (i + 1) = k + 1 + i by omega]; exact hi)
      rw [show k + (i + 1) + 1 = k + 1 + i + 1 by omega] at this
      exact this
    refine ⟨acc2, env2, M2, ?_, by rw [List.length_cons, show k + (xs.length + 1) = k + 1 + xs.length by omega]; exact h2⟩
    rw [goCl_cons, e1]
    exact e2
/-- each item gives some items; the memory stays -/
theorem goCl_flat {ds : List D} (h : D → List D) (I : Env → Prop) {env : Env} {M : Mem} (h0 : I env) (hz : ds.length ≤ 4096) (hh : ∀ d ∈ ds, (h d).length ≤ 1)
    (hs : ∀ x acc env, x ∈ ds → acc.length < 4096 → I env → ∃ env', stepC tg ts rest x acc env M = .ok (acc ++ h x) env' M ∧ I env') :
    ∃ env', goCl tg ts rest ds [] env M = .ok (ds.flatMap h) env' M ∧ I env' := by
  obtain ⟨acc', env', M', e, e1, e2, e3⟩ := goCl_inv (tg := tg) (ts := ts) (rest := rest) (fun k acc env M1 => M1 = M ∧ acc = (ds.take k).flatMap h ∧ I env) ds 0 [] env M ⟨rfl, by simp, h0⟩ fun i x acc env M1 hx ⟨q1, q2, q3⟩ => by
    subst q1
    have hm : x ∈ ds := List.mem_of_getElem? hx
    obtain ⟨hi, hxi⟩ := List.getElem?_eq_some_iff.mp hx
    have hlen : acc.length < 4096 := by
      rw [q2]
      have : ∀ (l : List D), (∀ d ∈ l, (h d).length ≤ 1) → (l.flatMap h).length ≤ l.length := fun l => by
        induction l with
        | nil => intro _; simp
        | cons a l ih =>
          intro ha
          rw [List.flatMap_cons, List.length_append, List.length_cons]
          have := ha a (by simp)
          have := ih fun d hd => ha d (List.mem_cons_of_mem _ hd)
          omega
      have := this (ds.take (0 + i)) fun d hd => hh d (List.mem_of_mem_take hd)
      rw [List.length_take] at this
      omega
    obtain ⟨env', e, q⟩ := hs x acc env hm hlen q3
    refine ⟨_, env', M1, e, rfl, ?_, q⟩
    rw [q2, show 0 + i + 1 = i + 1 by omega, List.take_succ, hx]
    simp
  subst e1
  refine ⟨env', ?_, e3⟩
  rw [e, e2]
  simp
theorem goFor_inv {tk : D → Env → Mem → Res Unit} (I : Nat → Env → Mem → Prop) : ∀ (ds : List D) (k : Nat) (env : Env) (M : Mem), I k env M →
    (∀ i x env M, ds[i]? = some x → I (k + i) env M → ∃ env1 M1 env2 M2, tk x env M = .ok () env1 M1 ∧ b env1 M1 = .ok .next env2 M2 ∧ I (k + i + 1) (wipeE env2 wip) M2) →
    ∃ env' M', goFor wip tk b ds env M = .ok .next env' M' ∧ I (k + ds.length) env' M'
  | [], k, env, M, h0, _ => ⟨env, M, rfl, h0⟩
  | x :: xs, k, env, M, h0, hs => by
    obtain ⟨env1, M1, env2, M2, e1, e2, h1⟩ := hs 0 x env M rfl h0
    obtain ⟨env3, M3, e3, h3⟩ := goFor_inv I xs (k + 1) _ M2 h1 fun i y env M hy hi => by
      have := hs (i + 1) y env M hy (by rw [show k + (i + 1) = k + 1 + i by omega]; exact hi)
      rw [show k + (i + 1) + 1 = k + 1 + i + 1 by omega] at this
      exact this
    refine ⟨env3, M3, ?_, by rw [List.length_cons, show k + (xs.length + 1) = k + 1 + xs.length by omega]; exact h3⟩
    rw [goFor, e1]
    simp only [Res.bind]
    rw [e2]
    exact e3
end
/-! ### named pieces -/
section
variable {G : Gam} {a b : T} {env env1 : Env} {M M1 : Mem}
theorem seq_next (h : (den G a).ex env M = .ok .next env1 M1) : (den G (.cons a b)).ex env M = (den G b).ex env1 M1 := by
  show ((den G a).ex env M).bind _ = _
  rw [h]; rfl
theorem seq_ret {r : R} (h : (den G a).ex env M = .ok (.ret r) env1 M1) : (den G (.cons a b)).ex env M = .ok (.ret r) env1 M1 := by
  show ((den G a).ex env M).bind _ = _
  rw [h]; rfl
theorem or_ff {r : Res R} (h : (den G a).ev env M = .ok (.val (.bl false)) env1 M1) (h2 : (den G b).ev env1 M1 = r) : (den G (.or a b)).ev env M = r := by
  show ((den G a).ev env M).bind _ = _
  rw [h]; exact h2
theorem ifs_f {c : T} {r : Res Flow} (h : (den G c).ev env M = .ok (.val (.bl false)) env1 M1) (h2 : (den G b).ex env1 M1 = r) : (den G (.ifs c a b)).ex env M = r := by
  show (tst (den G c).ev env M).bind _ = _
  unfold tst
  rw [h]; exact h2
theorem ifs_t {c : T} {r : Res Flow} (h : (den G c).ev env M = .ok (.val (.bl true)) env1 M1) (h2 : (den G a).ex env1 M1 = r) : (den G (.ifs c a b)).ex env M = r := by
  show (tst (den G c).ev env M).bind _ = _
  unfold tst
  rw [h]; exact h2
theorem asg_var {i : Nat} {own : Bool} {d : D} {e : T} (h : (den G e).ev env M = .ok (.val d) env1 M1) (hl : isLck env1 i = false) (hi : i < env1.length) : (den G (.asg (.tvar own i) e)).ex env M = .ok .next (env1.set i (some (.val d))) M1 := by
  show ((den G e).ev env M).bind _ = _
  rw [h]
  show (asgV own i (.val d) env1 M1).bind _ = _
  unfold asgV
  have : ¬ env1.length ≤ i := by omega
  rw [hl, if_neg (by simp [this])]
  cases own <;> rfl
theorem run_ret {d : Def} {as : List SV} {r : R} (hp : (as.length == d.ps) = true) (h : (den G d.body).ex (startE d as) M = .ok (.ret r) env1 M1) : runDef G d as M = .ok r [] M1 := by
  unfold runDef
  rw [if_pos hp, h]
end
section
variable {G : Gam} {own : List Nat} {elt tg it ifs b : T} {wip : List Nat} {env env1 env' : Env} {M M1 M' : Mem} {l res : List D} {lk : Option Nat}
theorem lc_ev (hit : (den G it).it (blk own env) M = .ok (l, lk) env1 M1) (hw : wasOwn env1 lk = false) (hg : goCl (den G tg).tk (den G ifs).ts (emitE (den G elt).ev) l [] env1 M1 = .ok res env' M') : (den G (.lc own elt (.cl tg it ifs .cz))).ev env M = .ok (.own (.lst res)) env M' := by
  show inBlk own (clE (den G tg).tk (den G it).it (den G ifs).ts (fun emit => emit) (emitE (den G elt).ev) []) _ env M = _
  unfold inBlk clE
  rw [hit]
  simp only [Res.bind, hw]
  rw [if_neg (by simp), hg]
  rfl
theorem for_ex {f : Flow} (hit : (den G it).it env M = .ok (l, lk) env1 M1) (hw : wasOwn env1 lk = false) (hg : goFor wip (den G tg).tk (den G b).ex l env1 M1 = .ok f env' M') : (den G (.for wip tg it b)).ex env M = .ok f env' M' := by
  show forS wip (den G tg).tk (den G it).it (den G b).ex env M = _
  unfold forS
  rw [hit]
  simp only [Res.bind, hw]
  rw [if_neg (by simp), hg]
end
end Iv

/-! Iv: how long a repr is. -/
namespace Iv
open PySem
theorem textFrom_le : ∀ (ts : List PySem.Str) (k : Nat) (acc : PySem.Str), (textFrom k acc ts).length ≤ acc.length + (ts.map fun t => t.length + 2).sum
  | [], k, acc => by simp [textFrom]
  | t :: ts, k, acc => by
    have := textFrom_le ts (k + 1) (acc ++ (if k > 0 then ", " else "" : String) ++ t)
    rw [strLen_append, strLen_append] at this
    have h2 : ((if k > 0 then ", " else "" : String) : PySem.Str).length ≤ 2 := by split <;> decide
    simp only [textFrom, List.map_cons, List.sum_cons]
    omega
theorem join_le : ∀ ts : List PySem.Str, (Str.join ", " ts).length ≤ (ts.map fun t => t.length + 2).sum
  | [] => by decide
  | t :: ts => by
    have h := join_length_add (t :: ts) (by simp)
    have e : ∀ l : List PySem.Str, piled l = (l.map fun t => t.length + 2).sum := fun l => by
      induction l with
      | nil => rfl
      | cons a l ih => simp only [piled, List.map_cons, List.sum_cons, ih] <;> omega
    rw [e] at h
    omega
mutual
/-- shown, and how long at the most -/
def gd : D → Bool
  | .non => true
  | .bl _ => true
  | .int i => decide (i.natAbs < 2 ^ 200)
  | .str x => decide ((reprText x).length ≤ 1000)
  | .tup xs => gds xs
  | .fl xs => gds xs
  | _ => false
def gds : List D → Bool
  | [] => true
  | x :: xs => gd x && gds xs
end
mutual
def szD : D → Nat
  | .tup xs => 3 + szs xs
  | .fl xs => 3 + szs xs
  | _ => 2000
def szs : List D → Nat
  | [] => 0
  | x :: xs => szD x + 2 + szs xs
end
theorem log_ok {i : Int} (h : i.natAbs < 2 ^ 200) : i.natAbs.log2 < 1920 := by
  by_cases h0 : i.natAbs = 0
  · rw [h0]; decide
  · exact Nat.lt_of_lt_of_le ((Nat.log2_lt h0).mpr h) (by decide)
mutual
theorem gd_ok : ∀ d : D, gd d = true → (D.toP d).showable = true ∧ (D.toP d).shown.length ≤ szD d
  | .non, _ => ⟨rfl, by show (Str.ofString "None").length ≤ 2000; decide⟩
  | .bl b, _ => ⟨rfl, by cases b <;> (show Str.length _ ≤ 2000; decide)⟩
  | .int i, h => by
    have h : i.natAbs < 2 ^ 200 := by simpa [gd] using h
    refine ⟨by show decide _ = true; exact decide_eq_true (log_ok h), ?_⟩
    show (Str.ofString (toString i)).length ≤ 2000
    rw [ofString_length]
    have := int_text_length_le (k := 1920) (by decide) (log_ok h)
    omega
  | .str x, h => ⟨rfl, by
    have h : (reprText x).length ≤ 1000 := by simpa [gd] using h
    show (reprText x).length ≤ 2000; omega⟩
  | .tup xs, h => by
    obtain ⟨h1, h2⟩ := gds_ok xs (by simpa [gd] using h)
    refine ⟨h1, ?_⟩
    show (tupleText (PyData.shownAll (D.toPs xs))).length ≤ 3 + szs xs
    unfold tupleText
    rw [strLen_append, strLen_append]
    have h3 := join_le (PyData.shownAll (D.toPs xs))
    have h4 : ((if (PyData.shownAll (D.toPs xs)).length == 1 then ",)" else ")" : String) : PySem.Str).length ≤ 2 := by split <;> decide
    have h5 : (("(" : String) : PySem.Str).length = 1 := rfl
    omega
  | .fl xs, h => by
    obtain ⟨h1, h2⟩ := gds_ok xs (by simpa [gd] using h)
    refine ⟨h1, ?_⟩
    show (listText (PyData.shownAll (D.toPs xs))).length ≤ 3 + szs xs
    unfold listText
    rw [strLen_append]
    have h3 := textFrom_le (PyData.shownAll (D.toPs xs)) 0 "["
    have h5 : (("[" : String) : PySem.Str).length = 1 := rfl
    have h6 : (("]" : String) : PySem.Str).length = 1 := rfl
    omega
  | .fd _, h => by simp [gd] at h
  | .ref _, h => by simp [gd] at h
theorem gds_ok : ∀ l : List D, gds l = true → PyData.showableAll (D.toPs l) = true ∧ ((PyData.shownAll (D.toPs l)).map fun t => t.length + 2).sum ≤ szs l
  | [], _ => ⟨rfl, by simp [D.toPs, PyData.shownAll, szs]⟩
  | x :: xs, h => by
    simp only [gds, Bool.and_eq_true] at h
    obtain ⟨h1, h2⟩ := gd_ok x h.1
    obtain ⟨h3, h4⟩ := gds_ok xs h.2
    refine ⟨by simp [D.toPs, PyData.showableAll, h1, h3], ?_⟩
    simp only [D.toPs, PyData.shownAll, List.map_cons, List.sum_cons, szs]
    omega
end
theorem repr_of {d : D} (hp : D.pure d = true) (h : gd d = true) (hz : szD d ≤ 10000000) : (D.toP d).showable = true ∧ lineOk ((D.toP d).shown.length + 64) = true := by
  obtain ⟨h1, h2⟩ := gd_ok d h
  refine ⟨h1, ?_⟩
  simp only [lineOk, decide_eq_true_eq, sizeLine_eq]
  omega
end Iv

namespace Qk65
open Iv
/-- slots: thing -/
def b_is_number : T := (.cons (.ret (.and (.blt (.isi .int) (.cons (.var 0) .nil)) (.not (.blt (.isi .bool) (.cons (.var 0) .nil))))) .nil)
def is_sheet_c0 : T := (.lc [3] (.var 3) (.cl (.tvar false 3) (.itr (.var 1)) (.cons (.or (.not (.call 0 (.cons (.var 3) .nil))) (.not (.chn .le .le (.int 1) (.var 3) (.con (.int 8))))) .nil) .cz))
def is_sheet_c1 : T := (.lc [4] (.and (.call 0 (.cons (.var 4) .nil)) (.chn .le .le (.neg (.con (.int 9999))) (.var 4) (.con (.int 9999)))) (.cl (.tvar false 4) (.itr (.var 2)) .nil .cz))
/-- slots: thing sizes numbers size number -/
def b_is_sheet : T := (.cons (.ifs (.or (.not (.blt (.isi .tuple) (.cons (.var 0) .nil))) (.cmp .ne (.blt .len (.cons (.var 0) .nil)) (.int 2))) (.cons (.ret (.bl false)) .nil) .nil) (.cons (.asg (.ttup (.cons (.tvar false 1) (.cons (.tvar false 2) .nil))) (.var 0)) (.cons (.ifs (.or (.not (.blt (.isi .tuple) (.cons (.var 1) .nil))) (.or (.cmp .ne (.blt .len (.cons (.var 1) .nil)) (.int 2)) (.not (.blt (.isi .tuple) (.cons (.var 2) .nil))))) (.cons (.ret (.bl false)) .nil) .nil) (.cons (.ifs is_sheet_c0 (.cons (.ret (.bl false)) .nil) .nil) (.cons (.ifs (.cmp .ne (.blt .len (.cons (.var 2) .nil)) (.bin .mul (.bin .add (.sub (.var 1) (.int 0)) (.int 1)) (.bin .add (.sub (.var 1) (.int 1)) (.int 1)))) (.cons (.ret (.bl false)) .nil) .nil) (.cons (.ret (.blt .all (.cons is_sheet_c1 .nil))) .nil))))))
def law_deck_c0 : T := (.lc [1] (.blt .abs (.cons (.var 1) .nil)) (.cl (.tvar false 1) (.itr (.slc (.var 0) .nil (.int 63))) .nil .cz))
/-- slots: _law_script _law_cell -/
def b_law_deck : T := (.cons (.ret (.lst (.cons (.alc law_deck_c0) (.cons (.int 0) .nil)))) .nil)
/-- slots: _law_deck_here _law_many _law_cell _law_place -/
def b_law_draw : T := (.cons (.asg (.tsub (.var 0) (.int 1)) (.bin .add (.sub (.var 0) (.int 1)) (.int 1))) (.cons (.asg (.tvar false 2) (.int 0)) (.cons (.asg (.tvar false 3) (.neg (.int 1))) (.cons (.ifs (.cmp .gt (.blt .len (.cons (.sub (.var 0) (.int 0)) .nil)) (.int 0)) (.cons (.asg (.tvar false 3) (.bin .mod (.sub (.var 0) (.int 1)) (.blt .len (.cons (.sub (.var 0) (.int 0)) .nil)))) (.cons (.asg (.tvar false 2) (.sub (.sub (.var 0) (.int 0)) (.var 3))) .nil)) .nil) (.cons (.ifs (.cmp .ge (.var 2) (.bin .pow (.int 10) (.int 18))) (.cons (.asg (.tsub (.sub (.var 0) (.int 0)) (.var 3)) (.bin .fdiv (.var 2) (.var 1))) (.cons (.ret (.bin .mod (.var 2) (.var 1))) .nil)) .nil) (.cons (.ret (.bin .mod (.bin .mod (.bin .pow (.bin .add (.bin .add (.bin .mod (.var 2) (.int 2147483587)) (.bin .mul (.int 7919) (.sub (.var 0) (.int 1)))) (.int 1)) (.int 5)) (.int 2147483647)) (.var 1))) .nil))))))
def law_sheet_b0 : T := (.cons (.asg (.tvar false 6) (.sub (.lst (.cons (.call 3 (.cons (.var 0) (.cons (.int 3) .nil))) (.cons (.bin .sub (.call 3 (.cons (.var 0) (.cons (.int 7) .nil))) (.int 3)) (.cons (.bin .sub (.call 3 (.cons (.var 0) (.cons (.int 41) .nil))) (.int 20)) (.cons (.call 3 (.cons (.var 0) (.cons (.int 2) .nil))) .nil))))) (.bin .mod (.var 3) (.int 4)))) (.cons (.ifs (.cmp .eq (.var 3) (.int 4)) (.cons (.asg (.tvar false 6) (.bin .mul (.int 9999) (.bin .sub (.call 3 (.cons (.var 0) (.cons (.int 3) .nil))) (.int 1)))) .nil) .nil) (.cons (.exp (.met .append (.var 4) (.cons (.var 6) .nil))) .nil)))
def law_sheet_f0 : T := (.for [5, 6] (.tvar false 5) (.rng (.cons (.bin .mul (.bin .add (.sub (.var 2) (.int 0)) (.int 1)) (.bin .add (.sub (.var 2) (.int 1)) (.int 1))) .nil)) law_sheet_b0)
/-- slots: _law_deck_here _law_most _law_sizes _law_kind _law_found _law_k _law_number_here -/
def b_law_sheet : T := (.cons (.asg (.tvar false 2) (.tup (.cons (.bin .add (.int 1) (.call 3 (.cons (.var 0) (.cons (.var 1) .nil)))) (.cons (.bin .add (.int 1) (.call 3 (.cons (.var 0) (.cons (.var 1) .nil)))) .nil)))) (.cons (.asg (.tvar false 3) (.call 3 (.cons (.var 0) (.cons (.int 5) .nil)))) (.cons (.asg (.tvar true 4) (.lst .nil)) (.cons law_sheet_f0 (.cons (.ret (.tup (.cons (.var 2) (.cons (.blt .tuple (.cons (.var 4) .nil)) .nil)))) .nil)))))
/-- slots: _law_thing _law_low _law_top -/
def b_law_number : T := (.cons (.ret (.and (.blt (.isi .int) (.cons (.var 0) .nil)) (.and (.not (.blt (.isi .bool) (.cons (.var 0) .nil))) (.chn .le .le (.var 1) (.var 0) (.var 2))))) .nil)
def law_is_c0 : T := (.lc [3] (.var 3) (.cl (.tvar false 3) (.itr (.var 2)) (.cons (.not (.call 5 (.cons (.var 3) (.cons (.neg (.int 9999)) (.cons (.int 9999) .nil))))) .nil) .cz))
/-- slots: _law_thing _law_sizes _law_numbers _law_number_here -/
def b_law_is : T := (.cons (.ifs (.or (.not (.blt (.isi .tuple) (.cons (.var 0) .nil))) (.cmp .ne (.blt .len (.cons (.var 0) .nil)) (.int 2))) (.cons (.ret (.bl false)) .nil) .nil) (.cons (.asg (.ttup (.cons (.tvar false 1) (.cons (.tvar false 2) .nil))) (.var 0)) (.cons (.ifs (.or (.not (.blt (.isi .tuple) (.cons (.var 1) .nil))) (.or (.cmp .ne (.blt .len (.cons (.var 1) .nil)) (.int 2)) (.not (.blt (.isi .tuple) (.cons (.var 2) .nil))))) (.cons (.ret (.bl false)) .nil) .nil) (.cons (.ifs (.or (.not (.call 5 (.cons (.sub (.var 1) (.int 0)) (.cons (.int 1) (.cons (.int 8) .nil))))) (.not (.call 5 (.cons (.sub (.var 1) (.int 1)) (.cons (.int 1) (.cons (.int 8) .nil)))))) (.cons (.ret (.bl false)) .nil) .nil) (.cons (.ifs (.cmp .ne (.blt .len (.cons (.var 2) .nil)) (.bin .mul (.bin .add (.sub (.var 1) (.int 0)) (.int 1)) (.bin .add (.sub (.var 1) (.int 1)) (.int 1)))) (.cons (.ret (.bl false)) .nil) .nil) (.cons (.ret (.cmp .eq law_is_c0 (.lst .nil))) .nil))))))
def law_bent_s0 : T := (.asg (.tvar false 2) (.call 3 (.cons (.var 0) (.cons (.int 9) .nil))))
def law_bent_s1 : T := (.asg (.ttup (.cons (.ttup (.cons (.tvar false 3) (.cons (.tvar false 4) .nil))) (.cons (.tvar false 5) .nil))) (.var 1))
def law_bent_s2 : T := (.asg (.tvar false 6) (.call 3 (.cons (.var 0) (.cons (.blt .len (.cons (.var 5) .nil)) .nil))))
def law_bent_s3 : T := (.asg (.tvar false 7) (.sub (.lst (.cons (.int 9999) (.cons (.neg (.int 9999)) (.cons (.int 10000) (.cons (.neg (.int 10000)) (.cons (.bl true) (.cons .non (.cons (.str "1") (.cons (.tup (.cons (.int 1) .nil)) (.cons (.bin .pow (.int 10) (.int 39)) (.cons (.lst .nil) (.cons (.bl false) (.cons (.int 0) .nil))))))))))))) (.call 3 (.cons (.var 0) (.cons (.int 12) .nil)))))
def law_bent_s4 : T := (.ifs (.cmp .eq (.var 2) (.int 0)) (.cons (.ret (.tup (.cons (.tup (.cons (.var 3) (.cons (.var 4) .nil))) (.cons (.bin .add (.bin .add (.slc (.var 5) .nil (.var 6)) (.tup (.cons (.var 7) .nil))) (.slc (.var 5) (.bin .add (.var 6) (.int 1)) .nil)) .nil)))) .nil) .nil)
def law_bent_s5 : T := (.ifs (.cmp .eq (.var 2) (.int 1)) (.cons (.ret (.tup (.cons (.tup (.cons (.var 3) (.cons (.var 4) .nil))) (.cons (.bin .add (.slc (.var 5) .nil (.var 6)) (.slc (.var 5) (.bin .add (.var 6) (.int 1)) .nil)) .nil)))) .nil) .nil)
def law_bent_s6 : T := (.ifs (.cmp .eq (.var 2) (.int 2)) (.cons (.ret (.tup (.cons (.tup (.cons (.var 3) (.cons (.var 4) .nil))) (.cons (.bin .add (.var 5) (.slc (.var 5) (.var 6) (.bin .add (.var 6) (.int 1)))) .nil)))) .nil) .nil)
def law_bent_s7 : T := (.ifs (.cmp .eq (.var 2) (.int 3)) (.cons (.ret (.tup (.cons (.tup (.cons (.var 4) (.cons (.var 3) .nil))) (.cons (.var 5) .nil)))) .nil) .nil)
def law_bent_s8 : T := (.ifs (.cmp .eq (.var 2) (.int 4)) (.cons (.asg (.tvar false 8) (.sub (.lst (.cons (.tup (.cons (.int 0) (.cons (.var 4) .nil))) (.cons (.tup (.cons (.var 3) (.cons (.int 9) .nil))) (.cons (.tup (.cons (.var 3) (.cons (.var 4) (.cons (.int 1) .nil)))) (.cons (.tup (.cons (.var 3) .nil)) (.cons (.lst (.cons (.var 3) (.cons (.var 4) .nil))) (.cons .non (.cons (.tup (.cons (.bl true) (.cons (.var 4) .nil))) (.cons (.tup (.cons (.var 3) (.cons (.neg (.var 4)) .nil))) (.cons (.str "ab") (.cons (.var 3) .nil))))))))))) (.call 3 (.cons (.var 0) (.cons (.int 10) .nil))))) (.cons (.ret (.tup (.cons (.var 8) (.cons (.var 5) .nil)))) .nil)) .nil)
def law_bent_s9 : T := (.ifs (.cmp .eq (.var 2) (.int 5)) (.cons (.ret (.sub (.lst (.cons (.lst (.cons (.tup (.cons (.var 3) (.cons (.var 4) .nil))) (.cons (.var 5) .nil))) (.cons (.tup (.cons (.tup (.cons (.var 3) (.cons (.var 4) .nil))) (.cons (.blt .list (.cons (.var 5) .nil)) .nil))) (.cons (.tup (.cons (.var 5) (.cons (.tup (.cons (.var 3) (.cons (.var 4) .nil))) .nil))) (.cons (.tup (.cons (.tup (.cons (.var 3) (.cons (.var 4) .nil))) .nil)) .nil))))) (.call 3 (.cons (.var 0) (.cons (.int 4) .nil))))) .nil) .nil)
def law_bent_s10 : T := (.ifs (.cmp .eq (.var 2) (.int 6)) (.cons (.ret (.tup (.cons (.tup (.cons (.var 3) (.cons (.var 4) .nil))) (.cons (.var 5) (.cons (.int 0) .nil))))) .nil) .nil)
def law_bent_s11 : T := (.ifs (.cmp .eq (.var 2) (.int 7)) (.cons (.asg (.tvar false 9) (.call 3 (.cons (.var 0) (.cons (.int 12) .nil)))) (.cons (.ret (.tup (.cons (.tup (.cons (.var 9) (.cons (.int 1) .nil))) (.cons (.bin .mul (.tup (.cons (.int 0) .nil)) (.bin .add (.bin .mul (.int 2) (.var 9)) (.int 2))) .nil)))) .nil)) .nil)
def law_bent_s12 : T := (.ret (.sub (.lst (.cons .non (.cons (.bl true) (.cons (.int 0) (.cons (.str "") (.cons (.tup .nil) (.cons (.lst .nil) (.cons (.tup (.cons (.tup .nil) (.cons (.tup .nil) .nil))) (.cons (.tup (.cons (.tup (.cons (.int 1) (.cons (.int 1) .nil))) (.cons (.int 4) .nil))) .nil))))))))) (.call 3 (.cons (.var 0) (.cons (.int 8) .nil)))))
/-- slots: _law_deck_here _law_sheet_here _law_way _law_a _law_b _law_numbers _law_at _law_odd _law_some _law_much -/
def b_law_bent : T := (.cons law_bent_s0 (.cons law_bent_s1 (.cons law_bent_s2 (.cons law_bent_s3 (.cons law_bent_s4 (.cons law_bent_s5 (.cons law_bent_s6 (.cons law_bent_s7 (.cons law_bent_s8 (.cons law_bent_s9 (.cons law_bent_s10 (.cons law_bent_s11 (.cons law_bent_s12 .nil)))))))))))))
def law_b0 : T := (.cons (.asg (.tvar false 5) (.var 3)) (.cons (.ifs (.cmp .gt (.var 2) (.int 0)) (.cons (.asg (.tvar false 5) (.call 7 (.cons (.var 1) (.cons (.var 3) .nil)))) .nil) .nil) (.cons (.asg (.tvar false 6) (.blt .repr (.cons (.var 5) .nil))) (.cons (.asg (.tvar false 7) (.call 1 (.cons (.var 5) .nil))) (.cons (.ifs (.or (.not (.blt (.isi .bool) (.cons (.var 7) .nil))) (.or (.cmp .ne (.var 7) (.call 6 (.cons (.var 5) .nil))) (.cmp .ne (.blt .repr (.cons (.var 5) .nil)) (.var 6)))) (.cons (.ret (.bl false)) .nil) .nil) .nil)))))
def law_f0 : T := (.for [4, 5, 6, 7] (.tvar false 4) (.rng (.cons (.int 4) .nil)) law_b0)
/-- slots: _law_script _law_deck_here _law_way _law_sheet_here _law_k _law_thing _law_kept _law_found -/
def b_law : T := (.cons (.asg (.tvar false 1) (.alc (.call 2 (.cons (.var 0) .nil)))) (.cons (.asg (.tvar false 2) (.call 3 (.cons (.var 1) (.cons (.int 4) .nil)))) (.cons (.asg (.tvar false 3) (.call 4 (.cons (.var 1) (.cons (.sub (.lst (.cons (.int 3) (.cons (.int 8) .nil))) (.blt .int (.cons (.cmp .eq (.call 3 (.cons (.var 1) (.cons (.int 5) .nil))) (.int 0)) .nil))) .nil)))) (.cons law_f0 (.cons (.ret (.cmp .is (.call 1 (.cons (.var 3) .nil)) (.bl true))) .nil)))))
abbrev d_is_number : Def := ⟨1, 1, b_is_number⟩
abbrev f_is_number : Nat := 0
abbrev d_is_sheet : Def := ⟨1, 5, b_is_sheet⟩
abbrev f_is_sheet : Nat := 1
abbrev d_law_deck : Def := ⟨1, 2, b_law_deck⟩
abbrev f_law_deck : Nat := 2
abbrev d_law_draw : Def := ⟨2, 4, b_law_draw⟩
abbrev f_law_draw : Nat := 3
abbrev d_law_sheet : Def := ⟨2, 7, b_law_sheet⟩
abbrev f_law_sheet : Nat := 4
abbrev d_law_number : Def := ⟨3, 3, b_law_number⟩
abbrev f_law_number : Nat := 5
abbrev d_law_is : Def := ⟨1, 4, b_law_is⟩
abbrev f_law_is : Nat := 6
abbrev d_law_bent : Def := ⟨2, 10, b_law_bent⟩
abbrev f_law_bent : Nat := 7
abbrev d_law : Def := ⟨1, 8, b_law⟩
abbrev f_law : Nat := 8
def P : List Def := [d_is_number, d_is_sheet, d_law_deck, d_law_draw, d_law_sheet, d_law_number, d_law_is, d_law_bent]
end Qk65

namespace Qk65
open Iv PySem L2
abbrev prg : Program := PySem.Challenge.pw_levelskins_k65_sheets_looked_at
def top (i : Nat) : Stmt := prg.main.body.getD i (.Pass ⟨0, 0, 0, 0⟩)
def F_is_number : Fdef := ⟨"is_number", ["thing"], ["thing"], defArgs (top 1), defBody (top 1), defScope (top 1), d_is_number⟩
def F_is_sheet : Fdef := ⟨"is_sheet", ["thing"], ["thing", "sizes", "numbers", "size", "number"], defArgs (top 5), defBody (top 5), defScope (top 5), d_is_sheet⟩
def F_law_deck : Fdef := ⟨"_law_deck", ["_law_script"], ["_law_script", "_law_cell"], defArgs (top 7), defBody (top 7), defScope (top 7), d_law_deck⟩
def F_law_draw : Fdef := ⟨"_law_draw", ["_law_deck_here", "_law_many"], ["_law_deck_here", "_law_many", "_law_cell", "_law_place"], defArgs (top 8), defBody (top 8), defScope (top 8), d_law_draw⟩
def F_law_sheet : Fdef := ⟨"_law_sheet", ["_law_deck_here", "_law_most"], ["_law_deck_here", "_law_most", "_law_sizes", "_law_kind", "_law_found", "_law_k", "_law_number_here"], defArgs (top 9), defBody (top 9), defScope (top 9), d_law_sheet⟩
def F_law_number : Fdef := ⟨"_law_number", ["_law_thing", "_law_low", "_law_top"], ["_law_thing", "_law_low", "_law_top"], defArgs (top 10), defBody (top 10), defScope (top 10), d_law_number⟩
def F_law_is : Fdef := ⟨"_law_is", ["_law_thing"], ["_law_thing", "_law_sizes", "_law_numbers", "_law_number_here"], defArgs (top 11), defBody (top 11), defScope (top 11), d_law_is⟩
def F_law_bent : Fdef := ⟨"_law_bent", ["_law_deck_here", "_law_sheet_here"], ["_law_deck_here", "_law_sheet_here", "_law_way", "_law_a", "_law_b", "_law_numbers", "_law_at", "_law_odd", "_law_some", "_law_much"], defArgs (top 12), defBody (top 12), defScope (top 12), d_law_bent⟩
def F_law : Fdef := ⟨"law", ["_law_script"], ["_law_script", "_law_deck_here", "_law_way", "_law_sheet_here", "_law_k", "_law_thing", "_law_kept", "_law_found"], defArgs (top 13), defBody (top 13), defScope (top 13), d_law⟩
def fs : List Fdef := [F_is_number, F_is_sheet, F_law_deck, F_law_draw, F_law_sheet, F_law_number, F_law_is, F_law_bent]
def cs : List (PySem.Str × Int) := [("MOST", 9999), ("MOST_SQUARES", 8)]
end Qk65

namespace Iv
/-- the deck: numbers, none negative -/
def decks (xs : List Int) (c : Int) : Mem := [.lst (xs.map .int), .lst [.ref 0, .int c]]
def DkOk (xs : List Int) (c : Int) : Prop := (∀ x ∈ xs, 0 ≤ x) ∧ xs.length ≤ 63 ∧ 0 ≤ c ∧ c < 2 ^ 50
end Iv
namespace Qk65
open Iv
abbrev DrawSp (G : Gam) : Prop := ∀ (xs : List Int) (c m : Int), DkOk xs c → 0 < m → m < 2 ^ 20 →
  ∃ (v : Int) (xs' : List Int), 0 ≤ v ∧ v < m ∧ (∀ x ∈ xs', 0 ≤ x) ∧ xs'.length = xs.length ∧ G 3 [.val (.ref 1), .val (.int m)] (decks xs c) = .ok (.val (.int v)) [] (decks xs' (c + 1))
theorem draw_ok (n : Nat) : DrawSp (call P (n + 1)) := by
  intro xs c m ⟨hx, hl, h0, h1⟩ m0 m1
  show ∃ (v : Int) (xs' : List Int), 0 ≤ v ∧ v < m ∧ (∀ x ∈ xs', 0 ≤ x) ∧ xs'.length = xs.length ∧ runDef (call P n) d_law_draw [.val (.ref 1), .val (.int m)] (decks xs c) = .ok (.val (.int v)) [] (decks xs' (c + 1))
  by_cases he : xs = []
  · subst he
    have b1 : (7919 * (c + 1) + 1).natAbs < 18446744073709551616 := by omega
    refine ⟨(7919 * (c + 1) + 1) ^ 5 % 2147483647 % m, [], Int.emod_nonneg _ (by omega), Int.emod_lt_of_pos _ m0, by simp, rfl, ?_⟩
    simp only [runDef, b_law_draw, startE, d_law_draw, decks]
    simp [den, seqS, asgE, tkSub, asgD, subE, bin2, varE, pureE, vw, place, getOb, setOb, setO, subO, ixN, L2.ixN, Res.bind, R.toD, toDs, optE, binE, binO, addO, T.len, asgV, isLck, ifsS, tst, cmpE, cmpO, bltE, consE, nilE, vws, bltO, lenB, vwK, Res.ofO, truth, un1, negO, mulO, intO, binI, retE, expE, andE, orE, notE, ifeE, chnE, tupE, lstE, alcE, slcE, optR, isiB, tyO, callE, toArgs, R.arg, tkT, tksC, absB, intB, tupleB, listB, allB, strB, iterE, Vw.iter, R.isRef, lkOf, rngE, forS, wasOwn, lockS, unlock, unlockR, clE, inBlk, metE, metK, Vw.kd, Ob.kd, mtOk, Mth.mode, chgD, Den.bad, big64, b1, m0]
  · have hlp : 0 < xs.length := List.length_pos_iff.mpr he
    have hpos : (0 : Int) < (xs.length : Int) := by omega
    have i0 : 0 ≤ (c + 1) % (xs.length : Int) := Int.emod_nonneg _ (by omega)
    have i1 : (c + 1) % (xs.length : Int) < (xs.length : Int) := Int.emod_lt_of_pos _ hpos
    obtain ⟨k, hk⟩ := Int.eq_ofNat_of_zero_le i0
    have hkl : k < xs.length := by omega
    have hz : 0 ≤ xs[k] := hx _ (List.getElem_mem hkl)
    have q0 : 0 ≤ xs[k] % 2147483587 := Int.emod_nonneg _ (by decide)
    have q1 : xs[k] % 2147483587 < 2147483587 := Int.emod_lt_of_pos _ (by decide)
    have b1 : (xs[k] % 2147483587 + 7919 * (c + 1) + 1).natAbs < 18446744073709551616 := by omega
    have m2 : m < 1073741824 := by omega
    by_cases hb : (1000000000000000000 : Int) ≤ xs[k]
    · refine ⟨xs[k] % m, xs.set k (xs[k] / m), Int.emod_nonneg _ (by omega), Int.emod_lt_of_pos _ m0, fun x h => ?_, by simp, ?_⟩
      · rcases List.mem_or_eq_of_mem_set h with h | h
        · exact hx x h
        · subst h; exact Int.ediv_nonneg hz (by omega)
      · simp only [runDef, b_law_draw, startE, d_law_draw, decks]
        simp [den, seqS, asgE, tkSub, asgD, subE, bin2, varE, pureE, vw, place, getOb, setOb, setO, subO, ixN, L2.ixN, Res.bind, R.toD, toDs, optE, binE, binO, addO, T.len, asgV, isLck, ifsS, tst, cmpE, cmpO, bltE, consE, nilE, vws, bltO, lenB, vwK, Res.ofO, truth, un1, negO, mulO, intO, binI, retE, expE, andE, orE, notE, ifeE, chnE, tupE, lstE, alcE, slcE, optR, isiB, tyO, callE, toArgs, R.arg, tkT, tksC, absB, intB, tupleB, listB, allB, strB, iterE, Vw.iter, R.isRef, lkOf, rngE, forS, wasOwn, lockS, unlock, unlockR, clE, inBlk, metE, metK, Vw.kd, Ob.kd, mtOk, Mth.mode, chgD, Den.bad, big64, b1, m0, m2, hlp, hpos, hk, hkl, hb, List.map_set]
    · refine ⟨(xs[k] % 2147483587 + 7919 * (c + 1) + 1) ^ 5 % 2147483647 % m, xs, Int.emod_nonneg _ (by omega), Int.emod_lt_of_pos _ m0, hx, rfl, ?_⟩
      simp only [runDef, b_law_draw, startE, d_law_draw, decks]
      simp [den, seqS, asgE, tkSub, asgD, subE, bin2, varE, pureE, vw, place, getOb, setOb, setO, subO, ixN, L2.ixN, Res.bind, R.toD, toDs, optE, binE, binO, addO, T.len, asgV, isLck, ifsS, tst, cmpE, cmpO, bltE, consE, nilE, vws, bltO, lenB, vwK, Res.ofO, truth, un1, negO, mulO, intO, binI, retE, expE, andE, orE, notE, ifeE, chnE, tupE, lstE, alcE, slcE, optR, isiB, tyO, callE, toArgs, R.arg, tkT, tksC, absB, intB, tupleB, listB, allB, strB, iterE, Vw.iter, R.isRef, lkOf, rngE, forS, wasOwn, lockS, unlock, unlockR, clE, inBlk, metE, metK, Vw.kd, Ob.kd, mtOk, Mth.mode, chgD, Den.bad, big64, b1, m0, m2, hlp, hpos, hk, hkl, hb]
theorem cut_all {α : Type} (xs : List α) (h : xs.length ≤ 63) : cut xs none (some 63) = xs := by
  simp only [cut, sIx]
  rw [List.drop_zero, List.take_of_length_le]
  simp; omega
def absD : D → List D
  | .int i => [.int (if i < 0 then -i else i)]
  | _ => []
theorem deck_c (G : Gam) (ns : List Int) (h : ns.length ≤ 63) : (den G law_deck_c0).ev [some (.val (.fl (ns.map .int))), none] [] = .ok (.own (.lst ((ns.map fun i => if i < 0 then -i else i).map .int))) [some (.val (.fl (ns.map .int))), none] [] := by
  have hc : cut (ns.map D.int) none (some 63) = ns.map .int := cut_all _ (by simpa using h)
  unfold law_deck_c0
  obtain ⟨env', e, -⟩ := goCl_flat (tg := (den G (.tvar false 1)).tk) (ts := (den G .nil).ts) (rest := emitE (den G (.blt .abs (.cons (.var 1) .nil))).ev) (ds := ns.map D.int) absD (fun env => ∃ v : Option D, env = [some (.val (.fl (ns.map .int))), v.map SV.val]) (env := [some (.val (.fl (ns.map .int))), none]) (M := []) ⟨none, rfl⟩ (by simp; omega) (fun d _ => by unfold absD; split <;> simp) (fun x acc env hx hl ⟨v, he⟩ => by
    subst he
    obtain ⟨i, _, rfl⟩ := List.mem_map.mp hx
    have hl' : acc.length < PySem.sizeLine := Nat.lt_of_lt_of_le hl (by decide)
    refine ⟨[some (.val (.fl (ns.map .int))), some (.val (.int i))], ?_, some (.int i), rfl⟩
    cases v <;> simp [stepC, den, seqS, asgE, tkSub, asgD, subE, bin2, varE, pureE, vw, place, getOb, setOb, setO, subO, ixN, L2.ixN, Res.bind, R.toD, toDs, optE, binE, binO, addO, T.len, asgV, isLck, ifsS, tst, cmpE, cmpO, bltE, consE, nilE, vws, bltO, lenB, vwK, Res.ofO, truth, un1, negO, mulO, intO, binI, retE, expE, andE, orE, notE, ifeE, chnE, tupE, lstE, alcE, slcE, optR, isiB, tyO, callE, toArgs, R.arg, tkT, tksC, absB, intB, tupleB, listB, allB, strB, iterE, Vw.iter, R.isRef, lkOf, rngE, forS, wasOwn, lockS, unlock, unlockR, clE, inBlk, metE, metK, Vw.kd, Ob.kd, mtOk, Mth.mode, chgD, Den.bad, hl', emitE, absD])
  rw [lc_ev (l := ns.map .int) (lk := none) (env1 := [some (.val (.fl (ns.map .int))), none]) (M1 := []) (env' := env') (M' := []) (res := (ns.map D.int).flatMap absD) (by simp [den, seqS, asgE, tkSub, asgD, subE, bin2, varE, pureE, vw, place, getOb, setOb, setO, subO, ixN, L2.ixN, Res.bind, R.toD, toDs, optE, binE, binO, addO, T.len, asgV, isLck, ifsS, tst, cmpE, cmpO, bltE, consE, nilE, vws, bltO, lenB, vwK, Res.ofO, truth, un1, negO, mulO, intO, binI, retE, expE, andE, orE, notE, ifeE, chnE, tupE, lstE, alcE, slcE, optR, isiB, tyO, callE, toArgs, R.arg, tkT, tksC, absB, intB, tupleB, listB, allB, strB, iterE, Vw.iter, R.isRef, lkOf, rngE, forS, wasOwn, lockS, unlock, unlockR, clE, inBlk, metE, metK, Vw.kd, Ob.kd, mtOk, Mth.mode, chgD, Den.bad, slcO, hc, blk, lend, wipeE]) rfl e]
  have : ∀ l : List Int, (l.map D.int).flatMap absD = (l.map fun i => if i < 0 then -i else i).map .int := fun l => by
    induction l with
    | nil => rfl
    | cons a l ih => simp only [List.map_cons, List.flatMap_cons, ih]; rfl
  rw [this]
theorem deck_ok (n : Nat) (ns : List Int) (h : ns.length ≤ 63) : runDef (call P n) d_law_deck [.val (.fl (ns.map .int))] [] = .ok (.own (.lst [.ref 0, .int 0])) [] [.lst ((ns.map fun i => if i < 0 then -i else i).map .int)] := by
  simp only [runDef, b_law_deck, startE, d_law_deck]
  have hd := deck_c (call P n) ns h
  simp [den, seqS, asgE, tkSub, asgD, subE, bin2, varE, pureE, vw, place, getOb, setOb, setO, subO, ixN, L2.ixN, Res.bind, R.toD, toDs, optE, binE, binO, addO, T.len, asgV, isLck, ifsS, tst, cmpE, cmpO, bltE, consE, nilE, vws, bltO, lenB, vwK, Res.ofO, truth, un1, negO, mulO, intO, binI, retE, expE, andE, orE, notE, ifeE, chnE, tupE, lstE, alcE, slcE, optR, isiB, tyO, callE, toArgs, R.arg, tkT, tksC, absB, intB, tupleB, listB, allB, strB, iterE, Vw.iter, R.isRef, lkOf, rngE, forS, wasOwn, lockS, unlock, unlockR, clE, inBlk, metE, metK, Vw.kd, Ob.kd, mtOk, Mth.mode, chgD, Den.bad, hd, lineOk, szl]

/-! ### numbers -/
def tl : D → Bool
  | .fd _ => false
  | .ref _ => false
  | _ => true
def isNum : D → Bool
  | .int _ => true
  | _ => false
def numIn (lo hi : Int) : D → Bool
  | .int i => decide (lo ≤ i) && decide (i ≤ hi)
  | _ => false
theorem num_ok (n : Nat) (d : D) (M : Mem) (h : tl d = true) : call P (n + 1) 0 [.val d] M = .ok (.val (.bl (isNum d))) [] M := by
  show runDef (call P n) d_is_number [.val d] M = _
  simp only [runDef, b_is_number, startE, d_is_number]
  cases d <;> first | (cases h; done) | simp [den, seqS, asgE, tkSub, asgD, subE, bin2, varE, pureE, vw, place, getOb, setOb, setO, subO, ixN, L2.ixN, Res.bind, R.toD, toDs, optE, binE, binO, addO, T.len, asgV, isLck, ifsS, tst, cmpE, cmpO, bltE, consE, nilE, vws, bltO, lenB, vwK, Res.ofO, truth, un1, negO, mulO, intO, binI, retE, expE, andE, orE, notE, ifeE, chnE, tupE, lstE, alcE, slcE, optR, isiB, tyO, callE, toArgs, R.arg, tkT, tksC, absB, intB, tupleB, listB, allB, strB, iterE, Vw.iter, R.isRef, lkOf, rngE, forS, wasOwn, lockS, unlock, unlockR, clE, inBlk, metE, metK, Vw.kd, Ob.kd, mtOk, Mth.mode, chgD, Den.bad, isNum]
theorem number_ok (n : Nat) (d : D) (lo hi : Int) (M : Mem) (h : tl d = true) : call P (n + 1) 5 [.val d, .val (.int lo), .val (.int hi)] M = .ok (.val (.bl (numIn lo hi d))) [] M := by
  show runDef (call P n) d_law_number [.val d, .val (.int lo), .val (.int hi)] M = _
  simp only [runDef, b_law_number, startE, d_law_number]
  cases d with
  | int i =>
    by_cases h1 : lo ≤ i
    · by_cases h2 : i ≤ hi <;> simp [den, seqS, asgE, tkSub, asgD, subE, bin2, varE, pureE, vw, place, getOb, setOb, setO, subO, ixN, L2.ixN, Res.bind, R.toD, toDs, optE, binE, binO, addO, T.len, asgV, isLck, ifsS, tst, cmpE, cmpO, bltE, consE, nilE, vws, bltO, lenB, vwK, Res.ofO, truth, un1, negO, mulO, intO, binI, retE, expE, andE, orE, notE, ifeE, chnE, tupE, lstE, alcE, slcE, optR, isiB, tyO, callE, toArgs, R.arg, tkT, tksC, absB, intB, tupleB, listB, allB, strB, iterE, Vw.iter, R.isRef, lkOf, rngE, forS, wasOwn, lockS, unlock, unlockR, clE, inBlk, metE, metK, Vw.kd, Ob.kd, mtOk, Mth.mode, chgD, Den.bad, numIn, h1, h2]
    · simp [den, seqS, asgE, tkSub, asgD, subE, bin2, varE, pureE, vw, place, getOb, setOb, setO, subO, ixN, L2.ixN, Res.bind, R.toD, toDs, optE, binE, binO, addO, T.len, asgV, isLck, ifsS, tst, cmpE, cmpO, bltE, consE, nilE, vws, bltO, lenB, vwK, Res.ofO, truth, un1, negO, mulO, intO, binI, retE, expE, andE, orE, notE, ifeE, chnE, tupE, lstE, alcE, slcE, optR, isiB, tyO, callE, toArgs, R.arg, tkT, tksC, absB, intB, tupleB, listB, allB, strB, iterE, Vw.iter, R.isRef, lkOf, rngE, forS, wasOwn, lockS, unlock, unlockR, clE, inBlk, metE, metK, Vw.kd, Ob.kd, mtOk, Mth.mode, chgD, Den.bad, numIn, h1]
  | fd _ => cases h
  | ref _ => cases h
  | _ => simp [den, seqS, asgE, tkSub, asgD, subE, bin2, varE, pureE, vw, place, getOb, setOb, setO, subO, ixN, L2.ixN, Res.bind, R.toD, toDs, optE, binE, binO, addO, T.len, asgV, isLck, ifsS, tst, cmpE, cmpO, bltE, consE, nilE, vws, bltO, lenB, vwK, Res.ofO, truth, un1, negO, mulO, intO, binI, retE, expE, andE, orE, notE, ifeE, chnE, tupE, lstE, alcE, slcE, optR, isiB, tyO, callE, toArgs, R.arg, tkT, tksC, absB, intB, tupleB, listB, allB, strB, iterE, Vw.iter, R.isRef, lkOf, rngE, forS, wasOwn, lockS, unlock, unlockR, clE, inBlk, metE, metK, Vw.kd, Ob.kd, mtOk, Mth.mode, chgD, Den.bad, numIn]
abbrev NumSp (G : Gam) : Prop := ∀ (d : D) (M : Mem), tl d = true → G 0 [.val d] M = .ok (.val (.bl (isNum d))) [] M
abbrev NumberSp (G : Gam) : Prop := ∀ (d : D) (lo hi : Int) (M : Mem), tl d = true → G 5 [.val d, .val (.int lo), .val (.int hi)] M = .ok (.val (.bl (numIn lo hi d))) [] M
theorem flat_filter (p : D → Bool) (l : List D) : (l.flatMap fun x => if p x then [x] else []) = l.filter p := by
  induction l with
  | nil => rfl
  | cons a l ih =>
    rw [List.flatMap_cons, ih, List.filter_cons]
    cases p a <;> rfl
theorem sheet_c0 (G : Gam) (hG : NumSp G) (t s u : D) (ss : List D) (M : Mem) (hs : ∀ d ∈ ss, tl d = true) (hl : ss.length ≤ 4096) : (den G is_sheet_c0).ev [some (.val t), some (.val (.tup ss)), some (.val u), none, none] M = .ok (.own (.lst (ss.filter fun x => !numIn 1 8 x))) [some (.val t), some (.val (.tup ss)), some (.val u), none, none] M := by
  unfold is_sheet_c0
  obtain ⟨env', e, -⟩ := goCl_flat (tg := (den G (.tvar false 3)).tk) (ts := (den G (.cons (.or (.not (.call 0 (.cons (.var 3) .nil))) (.not (.chn .le .le (.int 1) (.var 3) (.con (.int 8))))) .nil)).ts) (rest := emitE (den G (.var 3)).ev) (ds := ss) (fun x => if !numIn 1 8 x then [x] else []) (fun env => ∃ v : Option D, env = [some (.val t), some (.val (.tup ss)), some (.val u), v.map SV.val, none]) (env := [some (.val t), some (.val (.tup ss)), some (.val u), none, none]) (M := M) ⟨none, rfl⟩ hl (fun d _ => by split <;> simp) (fun x acc env hx hl ⟨v, he⟩ => by
    subst he
    have hl' : acc.length < PySem.sizeLine := Nat.lt_of_lt_of_le hl (by decide)
    have ht := hs x hx
    refine ⟨[some (.val t), some (.val (.tup ss)), some (.val u), some (.val x), none], ?_, some x, rfl⟩
    have hg := hG x M ht
    cases x with
    | int i =>
      by_cases h1 : 1 ≤ i
      · by_cases h2 : i ≤ 8 <;> cases v <;> simp [stepC, den, seqS, asgE, tkSub, asgD, subE, bin2, varE, pureE, vw, place, getOb, setOb, setO, subO, ixN, L2.ixN, Res.bind, R.toD, toDs, optE, binE, binO, addO, T.len, asgV, isLck, ifsS, tst, cmpE, cmpO, bltE, consE, nilE, vws, bltO, lenB, vwK, Res.ofO, truth, un1, negO, mulO, intO, binI, retE, expE, andE, orE, notE, ifeE, chnE, tupE, lstE, alcE, slcE, optR, isiB, tyO, callE, toArgs, R.arg, tkT, tksC, absB, intB, tupleB, listB, allB, strB, iterE, Vw.iter, R.isRef, lkOf, rngE, forS, wasOwn, lockS, unlock, unlockR, clE, inBlk, metE, metK, Vw.kd, Ob.kd, mtOk, Mth.mode, chgD, Den.bad, hl', emitE, hg, isNum, numIn, h1, h2]
      · cases v <;> simp [stepC, den, seqS, asgE, tkSub, asgD, subE, bin2, varE, pureE, vw, place, getOb, setOb, setO, subO, ixN, L2.ixN, Res.bind, R.toD, toDs, optE, binE, binO, addO, T.len, asgV, isLck, ifsS, tst, cmpE, cmpO, bltE, consE, nilE, vws, bltO, lenB, vwK, Res.ofO, truth, un1, negO, mulO, intO, binI, retE, expE, andE, orE, notE, ifeE, chnE, tupE, lstE, alcE, slcE, optR, isiB, tyO, callE, toArgs, R.arg, tkT, tksC, absB, intB, tupleB, listB, allB, strB, iterE, Vw.iter, R.isRef, lkOf, rngE, forS, wasOwn, lockS, unlock, unlockR, clE, inBlk, metE, metK, Vw.kd, Ob.kd, mtOk, Mth.mode, chgD, Den.bad, hl', emitE, hg, isNum, numIn, h1]
    | fd _ => cases ht
    | ref _ => cases ht
    | _ => cases v <;> simp [stepC, den, seqS, asgE, tkSub, asgD, subE, bin2, varE, pureE, vw, place, getOb, setOb, setO, subO, ixN, L2.ixN, Res.bind, R.toD, toDs, optE, binE, binO, addO, T.len, asgV, isLck, ifsS, tst, cmpE, cmpO, bltE, consE, nilE, vws, bltO, lenB, vwK, Res.ofO, truth, un1, negO, mulO, intO, binI, retE, expE, andE, orE, notE, ifeE, chnE, tupE, lstE, alcE, slcE, optR, isiB, tyO, callE, toArgs, R.arg, tkT, tksC, absB, intB, tupleB, listB, allB, strB, iterE, Vw.iter, R.isRef, lkOf, rngE, forS, wasOwn, lockS, unlock, unlockR, clE, inBlk, metE, metK, Vw.kd, Ob.kd, mtOk, Mth.mode, chgD, Den.bad, hl', emitE, hg, isNum, numIn])
  rw [lc_ev (l := ss) (lk := none) (env1 := [some (.val t), some (.val (.tup ss)), some (.val u), none, none]) (M1 := M) (env' := env') (M' := M) (res := ss.flatMap _) (by simp [den, seqS, asgE, tkSub, asgD, subE, bin2, varE, pureE, vw, place, getOb, setOb, setO, subO, ixN, L2.ixN, Res.bind, R.toD, toDs, optE, binE, binO, addO, T.len, asgV, isLck, ifsS, tst, cmpE, cmpO, bltE, consE, nilE, vws, bltO, lenB, vwK, Res.ofO, truth, un1, negO, mulO, intO, binI, retE, expE, andE, orE, notE, ifeE, chnE, tupE, lstE, alcE, slcE, optR, isiB, tyO, callE, toArgs, R.arg, tkT, tksC, absB, intB, tupleB, listB, allB, strB, iterE, Vw.iter, R.isRef, lkOf, rngE, forS, wasOwn, lockS, unlock, unlockR, clE, inBlk, metE, metK, Vw.kd, Ob.kd, mtOk, Mth.mode, chgD, Den.bad, blk, lend, wipeE]) rfl e, flat_filter]
theorem sheet_c1 (G : Gam) (hG : NumSp G) (t : D) (s u : SV) (hu : ∃ d, s = .val d) (ss : List D) (M : Mem) (hs : ∀ d ∈ ss, tl d = true) (hl : ss.length ≤ 4096) : (den G is_sheet_c1).ev [some (.val t), some s, some (.val (.tup ss)), none, none] M = .ok (.own (.lst (ss.map fun x => .bl (numIn (-9999) 9999 x)))) [some (.val t), some s, some (.val (.tup ss)), none, none] M := by
  obtain ⟨d, rfl⟩ := hu
  unfold is_sheet_c1
  obtain ⟨env', e, -⟩ := goCl_flat (tg := (den G (.tvar false 4)).tk) (ts := (den G .nil).ts) (rest := emitE (den G (.and (.call 0 (.cons (.var 4) .nil)) (.chn .le .le (.neg (.con (.int 9999))) (.var 4) (.con (.int 9999))))).ev) (ds := ss) (fun x => [.bl (numIn (-9999) 9999 x)]) (fun env => ∃ v : Option D, env = [some (.val t), some (.val d), some (.val (.tup ss)), none, v.map SV.val]) (env := [some (.val t), some (.val d), some (.val (.tup ss)), none, none]) (M := M) ⟨none, rfl⟩ hl (fun d _ => by simp) (fun x acc env hx hl ⟨v, he⟩ => by
    subst he
    have hl' : acc.length < PySem.sizeLine := Nat.lt_of_lt_of_le hl (by decide)
    have ht := hs x hx
    refine ⟨[some (.val t), some (.val d), some (.val (.tup ss)), none, some (.val x)], ?_, some x, rfl⟩
    have hg := hG x M ht
    cases x with
    | int i =>
      by_cases h1 : -9999 ≤ i
      · by_cases h2 : i ≤ 9999 <;> cases v <;> simp [stepC, den, seqS, asgE, tkSub, asgD, subE, bin2, varE, pureE, vw, place, getOb, setOb, setO, subO, ixN, L2.ixN, Res.bind, R.toD, toDs, optE, binE, binO, addO, T.len, asgV, isLck, ifsS, tst, cmpE, cmpO, bltE, consE, nilE, vws, bltO, lenB, vwK, Res.ofO, truth, un1, negO, mulO, intO, binI, retE, expE, andE, orE, notE, ifeE, chnE, tupE, lstE, alcE, slcE, optR, isiB, tyO, callE, toArgs, R.arg, tkT, tksC, absB, intB, tupleB, listB, allB, strB, iterE, Vw.iter, R.isRef, lkOf, rngE, forS, wasOwn, lockS, unlock, unlockR, clE, inBlk, metE, metK, Vw.kd, Ob.kd, mtOk, Mth.mode, chgD, Den.bad, hl', emitE, hg, isNum, numIn, h1, h2]
      · cases v <;> simp [stepC, den, seqS, asgE, tkSub, asgD, subE, bin2, varE, pureE, vw, place, getOb, setOb, setO, subO, ixN, L2.ixN, Res.bind, R.toD, toDs, optE, binE, binO, addO, T.len, asgV, isLck, ifsS, tst, cmpE, cmpO, bltE, consE, nilE, vws, bltO, lenB, vwK, Res.ofO, truth, un1, negO, mulO, intO, binI, retE, expE, andE, orE, notE, ifeE, chnE, tupE, lstE, alcE, slcE, optR, isiB, tyO, callE, toArgs, R.arg, tkT, tksC, absB, intB, tupleB, listB, allB, strB, iterE, Vw.iter, R.isRef, lkOf, rngE, forS, wasOwn, lockS, unlock, unlockR, clE, inBlk, metE, metK, Vw.kd, Ob.kd, mtOk, Mth.mode, chgD, Den.bad, hl', emitE, hg, isNum, numIn, h1]
    | fd _ => cases ht
    | ref _ => cases ht
    | _ => cases v <;> simp [stepC, den, seqS, asgE, tkSub, asgD, subE, bin2, varE, pureE, vw, place, getOb, setOb, setO, subO, ixN, L2.ixN, Res.bind, R.toD, toDs, optE, binE, binO, addO, T.len, asgV, isLck, ifsS, tst, cmpE, cmpO, bltE, consE, nilE, vws, bltO, lenB, vwK, Res.ofO, truth, un1, negO, mulO, intO, binI, retE, expE, andE, orE, notE, ifeE, chnE, tupE, lstE, alcE, slcE, optR, isiB, tyO, callE, toArgs, R.arg, tkT, tksC, absB, intB, tupleB, listB, allB, strB, iterE, Vw.iter, R.isRef, lkOf, rngE, forS, wasOwn, lockS, unlock, unlockR, clE, inBlk, metE, metK, Vw.kd, Ob.kd, mtOk, Mth.mode, chgD, Den.bad, hl', emitE, hg, isNum, numIn])
  rw [lc_ev (l := ss) (lk := none) (env1 := [some (.val t), some (.val d), some (.val (.tup ss)), none, none]) (M1 := M) (env' := env') (M' := M) (res := ss.flatMap _) (by simp [den, seqS, asgE, tkSub, asgD, subE, bin2, varE, pureE, vw, place, getOb, setOb, setO, subO, ixN, L2.ixN, Res.bind, R.toD, toDs, optE, binE, binO, addO, T.len, asgV, isLck, ifsS, tst, cmpE, cmpO, bltE, consE, nilE, vws, bltO, lenB, vwK, Res.ofO, truth, un1, negO, mulO, intO, binI, retE, expE, andE, orE, notE, ifeE, chnE, tupE, lstE, alcE, slcE, optR, isiB, tyO, callE, toArgs, R.arg, tkT, tksC, absB, intB, tupleB, listB, allB, strB, iterE, Vw.iter, R.isRef, lkOf, rngE, forS, wasOwn, lockS, unlock, unlockR, clE, inBlk, metE, metK, Vw.kd, Ob.kd, mtOk, Mth.mode, chgD, Den.bad, blk, lend, wipeE]) rfl e]
  have : ∀ l : List D, (l.flatMap fun x => [D.bl (numIn (-9999) 9999 x)]) = l.map fun x => .bl (numIn (-9999) 9999 x) := fun l => by
    induction l with
    | nil => rfl
    | cons a l ih => rw [List.flatMap_cons, ih]; rfl
  rw [this]
theorem is_c0 (G : Gam) (hG : NumberSp G) (t s : D) (ss : List D) (M : Mem) (hs : ∀ d ∈ ss, tl d = true) (hl : ss.length ≤ 4096) : (den G law_is_c0).ev [some (.val t), some (.val s), some (.val (.tup ss)), none] M = .ok (.own (.lst (ss.filter fun x => !numIn (-9999) 9999 x))) [some (.val t), some (.val s), some (.val (.tup ss)), none] M := by
  unfold law_is_c0
  obtain ⟨env', e, -⟩ := goCl_flat (tg := (den G (.tvar false 3)).tk) (ts := (den G (.cons (.not (.call 5 (.cons (.var 3) (.cons (.neg (.int 9999)) (.cons (.int 9999) .nil))))) .nil)).ts) (rest := emitE (den G (.var 3)).ev) (ds := ss) (fun x => if !numIn (-9999) 9999 x then [x] else []) (fun env => ∃ v : Option D, env = [some (.val t), some (.val s), some (.val (.tup ss)), v.map SV.val]) (env := [some (.val t), some (.val s), some (.val (.tup ss)), none]) (M := M) ⟨none, rfl⟩ hl (fun d _ => by split <;> simp) (fun x acc env hx hl ⟨v, he⟩ => by
    subst he
    have hl' : acc.length < PySem.sizeLine := Nat.lt_of_lt_of_le hl (by decide)
    have ht := hs x hx
    refine ⟨[some (.val t), some (.val s), some (.val (.tup ss)), some (.val x)], ?_, some x, rfl⟩
    have hg := hG x (-9999) 9999 M ht
    cases hb : numIn (-9999) 9999 x with
    | true =>
      rw [hb] at hg
      cases v <;> cases x <;> first | (cases ht; done) | simp [stepC, den, seqS, asgE, tkSub, asgD, subE, bin2, varE, pureE, vw, place, getOb, setOb, setO, subO, ixN, L2.ixN, Res.bind, R.toD, toDs, optE, binE, binO, addO, T.len, asgV, isLck, ifsS, tst, cmpE, cmpO, bltE, consE, nilE, vws, bltO, lenB, vwK, Res.ofO, truth, un1, negO, mulO, intO, binI, retE, expE, andE, orE, notE, ifeE, chnE, tupE, lstE, alcE, slcE, optR, isiB, tyO, callE, toArgs, R.arg, tkT, tksC, absB, intB, tupleB, listB, allB, strB, iterE, Vw.iter, R.isRef, lkOf, rngE, forS, wasOwn, lockS, unlock, unlockR, clE, inBlk, metE, metK, Vw.kd, Ob.kd, mtOk, Mth.mode, chgD, Den.bad, hl', emitE, hg]
    | false =>
      rw [hb] at hg
      cases v <;> cases x <;> first | (cases ht; done) | simp [stepC, den, seqS, asgE, tkSub, asgD, subE, bin2, varE, pureE, vw, place, getOb, setOb, setO, subO, ixN, L2.ixN, Res.bind, R.toD, toDs, optE, binE, binO, addO, T.len, asgV, isLck, ifsS, tst, cmpE, cmpO, bltE, consE, nilE, vws, bltO, lenB, vwK, Res.ofO, truth, un1, negO, mulO, intO, binI, retE, expE, andE, orE, notE, ifeE, chnE, tupE, lstE, alcE, slcE, optR, isiB, tyO, callE, toArgs, R.arg, tkT, tksC, absB, intB, tupleB, listB, allB, strB, iterE, Vw.iter, R.isRef, lkOf, rngE, forS, wasOwn, lockS, unlock, unlockR, clE, inBlk, metE, metK, Vw.kd, Ob.kd, mtOk, Mth.mode, chgD, Den.bad, hl', emitE, hg])
  rw [lc_ev (l := ss) (lk := none) (env1 := [some (.val t), some (.val s), some (.val (.tup ss)), none]) (M1 := M) (env' := env') (M' := M) (res := ss.flatMap _) (by simp [den, seqS, asgE, tkSub, asgD, subE, bin2, varE, pureE, vw, place, getOb, setOb, setO, subO, ixN, L2.ixN, Res.bind, R.toD, toDs, optE, binE, binO, addO, T.len, asgV, isLck, ifsS, tst, cmpE, cmpO, bltE, consE, nilE, vws, bltO, lenB, vwK, Res.ofO, truth, un1, negO, mulO, intO, binI, retE, expE, andE, orE, notE, ifeE, chnE, tupE, lstE, alcE, slcE, optR, isiB, tyO, callE, toArgs, R.arg, tkT, tksC, absB, intB, tupleB, listB, allB, strB, iterE, Vw.iter, R.isRef, lkOf, rngE, forS, wasOwn, lockS, unlock, unlockR, clE, inBlk, metE, metK, Vw.kd, Ob.kd, mtOk, Mth.mode, chgD, Den.bad, blk, lend, wipeE]) rfl e, flat_filter]
/-- what a sheet is -/
def isSheet : D → Bool
  | .tup [.tup [a, b], .tup ns] => numIn 1 8 a && numIn 1 8 b && (match a, b with
    | .int x, .int y => decide ((ns.length : Int) = (x + 1) * (y + 1))
    | _, _ => false) && ns.all (numIn (-9999) 9999)
  | _ => false
/-- things that may be looked at -/
def flat : D → Bool
  | .tup [s, u] => tl s && tl u && (match s with
    | .tup ss => ss.all tl && decide (ss.length ≤ 4096)
    | _ => true) && (match u with
    | .tup ns => ns.all D.pure && decide (ns.length ≤ 4096)
    | _ => true)
  | .tup xs => true
  | d => tl d
theorem tl_pure {d : D} (h : D.pure d = true) : tl d = true := by cases d <;> first | rfl | simp [D.pure, D.pureN] at h
theorem deref_pure {d : D} (M : Mem) (h : D.pure d = true) : D.deref M d = some d := by
  cases d with
  | ref j => simp [D.pure, D.pureN] at h
  | _ => simp only [D.deref, h, if_true]
theorem derefs_pure (M : Mem) : ∀ l : List D, (∀ d ∈ l, D.pure d = true) → l.mapM (D.deref M) = some l
  | [], _ => rfl
  | d :: l, h => by
    simp [List.mapM_cons, deref_pure M (h d (by simp)), derefs_pure M l fun x hx => h x (List.mem_cons_of_mem _ hx)]
theorem eqps_nil (l : List D) : D.eqps l [] = l.isEmpty := by cases l <;> rfl
theorem filter_empty (l : List D) (p : D → Bool) : (l.filter fun x => !p x).isEmpty = l.all p := by
  induction l with
  | nil => rfl
  | cons a l ih => rw [List.filter_cons, List.all_cons]; cases p a <;> simp [ih]
theorem all_bools (l : List D) (p : D → Bool) : asBools (l.map fun x => .bl (p x)) = some (l.map p) := by
  induction l with
  | nil => rfl
  | cons a l ih => simp [asBools, ih]
theorem sheet_ok (n : Nat) (d : D) (M : Mem) (h : flat d = true) : call P (n + 2) 1 [.val d] M = .ok (.val (.bl (isSheet d))) [] M := by
  show runDef (call P (n + 1)) d_is_sheet [.val d] M = _
  have hG : NumSp (call P (n + 1)) := num_ok n
  generalize call P (n + 1) = G at hG
  simp only [runDef, b_is_sheet, startE, d_is_sheet]
  cases d with
  | tup xs =>
    match xs with
    | [] => simp [den, seqS, asgE, tkSub, asgD, subE, bin2, varE, pureE, vw, place, getOb, setOb, setO, subO, ixN, L2.ixN, Res.bind, R.toD, toDs, optE, binE, binO, addO, T.len, asgV, isLck, ifsS, tst, cmpE, cmpO, bltE, consE, nilE, vws, bltO, lenB, vwK, Res.ofO, truth, un1, negO, mulO, intO, binI, retE, expE, andE, orE, notE, ifeE, chnE, tupE, lstE, alcE, slcE, optR, isiB, tyO, callE, toArgs, R.arg, tkT, tksC, absB, intB, tupleB, listB, allB, strB, iterE, Vw.iter, R.isRef, lkOf, rngE, forS, wasOwn, lockS, unlock, unlockR, clE, inBlk, metE, metK, Vw.kd, Ob.kd, mtOk, Mth.mode, chgD, Den.bad, isSheet, lineOk, szl, Vw.cmpD, eqO, D.eqp, D.pure, D.pureN]
    | [a] => simp [den, seqS, asgE, tkSub, asgD, subE, bin2, varE, pureE, vw, place, getOb, setOb, setO, subO, ixN, L2.ixN, Res.bind, R.toD, toDs, optE, binE, binO, addO, T.len, asgV, isLck, ifsS, tst, cmpE, cmpO, bltE, consE, nilE, vws, bltO, lenB, vwK, Res.ofO, truth, un1, negO, mulO, intO, binI, retE, expE, andE, orE, notE, ifeE, chnE, tupE, lstE, alcE, slcE, optR, isiB, tyO, callE, toArgs, R.arg, tkT, tksC, absB, intB, tupleB, listB, allB, strB, iterE, Vw.iter, R.isRef, lkOf, rngE, forS, wasOwn, lockS, unlock, unlockR, clE, inBlk, metE, metK, Vw.kd, Ob.kd, mtOk, Mth.mode, chgD, Den.bad, isSheet, lineOk, szl, Vw.cmpD, eqO, D.eqp, D.pure, D.pureN]
    | a :: b :: c :: r =>
      have e : ¬ ((r.length : Int) + 1 + 1 + 1 = 2) := by omega
      simp [den, seqS, asgE, tkSub, asgD, subE, bin2, varE, pureE, vw, place, getOb, setOb, setO, subO, ixN, L2.ixN, Res.bind, R.toD, toDs, optE, binE, binO, addO, T.len, asgV, isLck, ifsS, tst, cmpE, cmpO, bltE, consE, nilE, vws, bltO, lenB, vwK, Res.ofO, truth, un1, negO, mulO, intO, binI, retE, expE, andE, orE, notE, ifeE, chnE, tupE, lstE, alcE, slcE, optR, isiB, tyO, callE, toArgs, R.arg, tkT, tksC, absB, intB, tupleB, listB, allB, strB, iterE, Vw.iter, R.isRef, lkOf, rngE, forS, wasOwn, lockS, unlock, unlockR, clE, inBlk, metE, metK, Vw.kd, Ob.kd, mtOk, Mth.mode, chgD, Den.bad, isSheet, lineOk, szl, Vw.cmpD, eqO, D.eqp, D.pure, D.pureN, e]
    | [s, u] =>
      simp only [flat, Bool.and_eq_true] at h
      obtain ⟨⟨⟨hs, hu⟩, hs2⟩, hu2⟩ := h
      cases s with
      | tup ss =>
        simp only [Bool.and_eq_true, List.all_eq_true, decide_eq_true_eq] at hs2
        cases u with
        | tup ns =>
          simp only [Bool.and_eq_true, List.all_eq_true, decide_eq_true_eq] at hu2
          have e0 := sheet_c0 G hG (.tup [.tup ss, .tup ns]) (.tup ss) (.tup ns) ss M hs2.1 hs2.2
          have e1 := sheet_c1 G hG (.tup [.tup ss, .tup ns]) (.val (.tup ss)) (.val (.tup ss)) ⟨_, rfl⟩ ns M (fun d hd => tl_pure (hu2.1 d hd)) hu2.2
          match ss with
          | [] => simp [den, seqS, asgE, tkSub, asgD, subE, bin2, varE, pureE, vw, place, getOb, setOb, setO, subO, ixN, L2.ixN, Res.bind, R.toD, toDs, optE, binE, binO, addO, T.len, asgV, isLck, ifsS, tst, cmpE, cmpO, bltE, consE, nilE, vws, bltO, lenB, vwK, Res.ofO, truth, un1, negO, mulO, intO, binI, retE, expE, andE, orE, notE, ifeE, chnE, tupE, lstE, alcE, slcE, optR, isiB, tyO, callE, toArgs, R.arg, tkT, tksC, absB, intB, tupleB, listB, allB, strB, iterE, Vw.iter, R.isRef, lkOf, rngE, forS, wasOwn, lockS, unlock, unlockR, clE, inBlk, metE, metK, Vw.kd, Ob.kd, mtOk, Mth.mode, chgD, Den.bad, isSheet, lineOk, szl, Vw.cmpD, eqO, D.eqp, D.pure, D.pureN]
          | [a] => simp [den, seqS, asgE, tkSub, asgD, subE, bin2, varE, pureE, vw, place, getOb, setOb, setO, subO, ixN, L2.ixN, Res.bind, R.toD, toDs, optE, binE, binO, addO, T.len, asgV, isLck, ifsS, tst, cmpE, cmpO, bltE, consE, nilE, vws, bltO, lenB, vwK, Res.ofO, truth, un1, negO, mulO, intO, binI, retE, expE, andE, orE, notE, ifeE, chnE, tupE, lstE, alcE, slcE, optR, isiB, tyO, callE, toArgs, R.arg, tkT, tksC, absB, intB, tupleB, listB, allB, strB, iterE, Vw.iter, R.isRef, lkOf, rngE, forS, wasOwn, lockS, unlock, unlockR, clE, inBlk, metE, metK, Vw.kd, Ob.kd, mtOk, Mth.mode, chgD, Den.bad, isSheet, lineOk, szl, Vw.cmpD, eqO, D.eqp, D.pure, D.pureN]
          | a :: b :: c :: r =>
            have e : ((r.length : Int) + 1 + 1 + 1 == 2) = false := by rw [beq_eq_false_iff_ne]; omega
            simp [den, seqS, asgE, tkSub, asgD, subE, bin2, varE, pureE, vw, place, getOb, setOb, setO, subO, ixN, L2.ixN, Res.bind, R.toD, toDs, optE, binE, binO, addO, T.len, asgV, isLck, ifsS, tst, cmpE, cmpO, bltE, consE, nilE, vws, bltO, lenB, vwK, Res.ofO, truth, un1, negO, mulO, intO, binI, retE, expE, andE, orE, notE, ifeE, chnE, tupE, lstE, alcE, slcE, optR, isiB, tyO, callE, toArgs, R.arg, tkT, tksC, absB, intB, tupleB, listB, allB, strB, iterE, Vw.iter, R.isRef, lkOf, rngE, forS, wasOwn, lockS, unlock, unlockR, clE, inBlk, metE, metK, Vw.kd, Ob.kd, mtOk, Mth.mode, chgD, Den.bad, isSheet, lineOk, szl, Vw.cmpD, eqO, D.eqp, D.pure, D.pureN, e]
          | [a, b] =>
            cases ha : numIn 1 8 a with
            | false => simp [den, seqS, asgE, tkSub, asgD, subE, bin2, varE, pureE, vw, place, getOb, setOb, setO, subO, ixN, L2.ixN, Res.bind, R.toD, toDs, optE, binE, binO, addO, T.len, asgV, isLck, ifsS, tst, cmpE, cmpO, bltE, consE, nilE, vws, bltO, lenB, vwK, Res.ofO, truth, un1, negO, mulO, intO, binI, retE, expE, andE, orE, notE, ifeE, chnE, tupE, lstE, alcE, slcE, optR, isiB, tyO, callE, toArgs, R.arg, tkT, tksC, absB, intB, tupleB, listB, allB, strB, iterE, Vw.iter, R.isRef, lkOf, rngE, forS, wasOwn, lockS, unlock, unlockR, clE, inBlk, metE, metK, Vw.kd, Ob.kd, mtOk, Mth.mode, chgD, Den.bad, isSheet, lineOk, szl, Vw.cmpD, eqO, D.eqp, D.pure, D.pureN, e0, ha, List.filter_cons]
            | true =>
              cases hb : numIn 1 8 b with
              | false => simp [den, seqS, asgE, tkSub, asgD, subE, bin2, varE, pureE, vw, place, getOb, setOb, setO, subO, ixN, L2.ixN, Res.bind, R.toD, toDs, optE, binE, binO, addO, T.len, asgV, isLck, ifsS, tst, cmpE, cmpO, bltE, consE, nilE, vws, bltO, lenB, vwK, Res.ofO, truth, un1, negO, mulO, intO, binI, retE, expE, andE, orE, notE, ifeE, chnE, tupE, lstE, alcE, slcE, optR, isiB, tyO, callE, toArgs, R.arg, tkT, tksC, absB, intB, tupleB, listB, allB, strB, iterE, Vw.iter, R.isRef, lkOf, rngE, forS, wasOwn, lockS, unlock, unlockR, clE, inBlk, metE, metK, Vw.kd, Ob.kd, mtOk, Mth.mode, chgD, Den.bad, isSheet, lineOk, szl, Vw.cmpD, eqO, D.eqp, D.pure, D.pureN, e0, ha, hb, List.filter_cons]
              | true =>
                cases a with
                | int x =>
                  cases b with
                  | int y =>
                    simp only [numIn, Bool.and_eq_true, decide_eq_true_eq] at ha hb
                    have b1 : big64 (x + 1) = true := by simp [big64]; omega
                    by_cases hz : (ns.length : Int) = (x + 1) * (y + 1)
                    · simp [den, seqS, asgE, tkSub, asgD, subE, bin2, varE, pureE, vw, place, getOb, setOb, setO, subO, ixN, L2.ixN, Res.bind, R.toD, toDs, optE, binE, binO, addO, T.len, asgV, isLck, ifsS, tst, cmpE, cmpO, bltE, consE, nilE, vws, bltO, lenB, vwK, Res.ofO, truth, un1, negO, mulO, intO, binI, retE, expE, andE, orE, notE, ifeE, chnE, tupE, lstE, alcE, slcE, optR, isiB, tyO, callE, toArgs, R.arg, tkT, tksC, absB, intB, tupleB, listB, allB, strB, iterE, Vw.iter, R.isRef, lkOf, rngE, forS, wasOwn, lockS, unlock, unlockR, clE, inBlk, metE, metK, Vw.kd, Ob.kd, mtOk, Mth.mode, chgD, Den.bad, isSheet, lineOk, szl, Vw.cmpD, eqO, D.eqp, D.pure, D.pureN, e0, e1, ha, hb, List.filter_cons, numIn, b1, hz, all_bools]
                      rfl
                    · simp [den, seqS, asgE, tkSub, asgD, subE, bin2, varE, pureE, vw, place, getOb, setOb, setO, subO, ixN, L2.ixN, Res.bind, R.toD, toDs, optE, binE, binO, addO, T.len, asgV, isLck, ifsS, tst, cmpE, cmpO, bltE, consE, nilE, vws, bltO, lenB, vwK, Res.ofO, truth, un1, negO, mulO, intO, binI, retE, expE, andE, orE, notE, ifeE, chnE, tupE, lstE, alcE, slcE, optR, isiB, tyO, callE, toArgs, R.arg, tkT, tksC, absB, intB, tupleB, listB, allB, strB, iterE, Vw.iter, R.isRef, lkOf, rngE, forS, wasOwn, lockS, unlock, unlockR, clE, inBlk, metE, metK, Vw.kd, Ob.kd, mtOk, Mth.mode, chgD, Den.bad, isSheet, lineOk, szl, Vw.cmpD, eqO, D.eqp, D.pure, D.pureN, e0, e1, ha, hb, List.filter_cons, numIn, b1, hz, all_bools]
                  | _ => cases hb
                | _ => cases ha
        | fd _ => cases hu
        | ref _ => cases hu
        | _ => cases hb2 : ((ss.length : Int) == 2) <;> simp [den, seqS, asgE, tkSub, asgD, subE, bin2, varE, pureE, vw, place, getOb, setOb, setO, subO, ixN, L2.ixN, Res.bind, R.toD, toDs, optE, binE, binO, addO, T.len, asgV, isLck, ifsS, tst, cmpE, cmpO, bltE, consE, nilE, vws, bltO, lenB, vwK, Res.ofO, truth, un1, negO, mulO, intO, binI, retE, expE, andE, orE, notE, ifeE, chnE, tupE, lstE, alcE, slcE, optR, isiB, tyO, callE, toArgs, R.arg, tkT, tksC, absB, intB, tupleB, listB, allB, strB, iterE, Vw.iter, R.isRef, lkOf, rngE, forS, wasOwn, lockS, unlock, unlockR, clE, inBlk, metE, metK, Vw.kd, Ob.kd, mtOk, Mth.mode, chgD, Den.bad, isSheet, lineOk, szl, Vw.cmpD, eqO, D.eqp, D.pure, D.pureN, hb2]
      | fd _ => cases hs
      | ref _ => cases hs
      | _ => simp [den, seqS, asgE, tkSub, asgD, subE, bin2, varE, pureE, vw, place, getOb, setOb, setO, subO, ixN, L2.ixN, Res.bind, R.toD, toDs, optE, binE, binO, addO, T.len, asgV, isLck, ifsS, tst, cmpE, cmpO, bltE, consE, nilE, vws, bltO, lenB, vwK, Res.ofO, truth, un1, negO, mulO, intO, binI, retE, expE, andE, orE, notE, ifeE, chnE, tupE, lstE, alcE, slcE, optR, isiB, tyO, callE, toArgs, R.arg, tkT, tksC, absB, intB, tupleB, listB, allB, strB, iterE, Vw.iter, R.isRef, lkOf, rngE, forS, wasOwn, lockS, unlock, unlockR, clE, inBlk, metE, metK, Vw.kd, Ob.kd, mtOk, Mth.mode, chgD, Den.bad, isSheet, lineOk, szl, Vw.cmpD, eqO, D.eqp, D.pure, D.pureN]
  | fd _ => cases h
  | ref _ => cases h
  | _ => simp [den, seqS, asgE, tkSub, asgD, subE, bin2, varE, pureE, vw, place, getOb, setOb, setO, subO, ixN, L2.ixN, Res.bind, R.toD, toDs, optE, binE, binO, addO, T.len, asgV, isLck, ifsS, tst, cmpE, cmpO, bltE, consE, nilE, vws, bltO, lenB, vwK, Res.ofO, truth, un1, negO, mulO, intO, binI, retE, expE, andE, orE, notE, ifeE, chnE, tupE, lstE, alcE, slcE, optR, isiB, tyO, callE, toArgs, R.arg, tkT, tksC, absB, intB, tupleB, listB, allB, strB, iterE, Vw.iter, R.isRef, lkOf, rngE, forS, wasOwn, lockS, unlock, unlockR, clE, inBlk, metE, metK, Vw.kd, Ob.kd, mtOk, Mth.mode, chgD, Den.bad, isSheet]
theorem is_ok (n : Nat) (d : D) (M : Mem) (h : flat d = true) : call P (n + 2) 6 [.val d] M = .ok (.val (.bl (isSheet d))) [] M := by
  show runDef (call P (n + 1)) d_law_is [.val d] M = _
  have hG : NumberSp (call P (n + 1)) := number_ok n
  generalize call P (n + 1) = G at hG
  simp only [runDef, b_law_is, startE, d_law_is]
  cases d with
  | tup xs =>
    match xs with
    | [] => simp [den, seqS, asgE, tkSub, asgD, subE, bin2, varE, pureE, vw, place, getOb, setOb, setO, subO, ixN, L2.ixN, Res.bind, R.toD, toDs, optE, binE, binO, addO, T.len, asgV, isLck, ifsS, tst, cmpE, cmpO, bltE, consE, nilE, vws, bltO, lenB, vwK, Res.ofO, truth, un1, negO, mulO, intO, binI, retE, expE, andE, orE, notE, ifeE, chnE, tupE, lstE, alcE, slcE, optR, isiB, tyO, callE, toArgs, R.arg, tkT, tksC, absB, intB, tupleB, listB, allB, strB, iterE, Vw.iter, R.isRef, lkOf, rngE, forS, wasOwn, lockS, unlock, unlockR, clE, inBlk, metE, metK, Vw.kd, Ob.kd, mtOk, Mth.mode, chgD, Den.bad, isSheet, lineOk, szl, Vw.cmpD, eqO, D.eqp, D.pure, D.pureN]
    | [a] => simp [den, seqS, asgE, tkSub, asgD, subE, bin2, varE, pureE, vw, place, getOb, setOb, setO, subO, ixN, L2.ixN, Res.bind, R.toD, toDs, optE, binE, binO, addO, T.len, asgV, isLck, ifsS, tst, cmpE, cmpO, bltE, consE, nilE, vws, bltO, lenB, vwK, Res.ofO, truth, un1, negO, mulO, intO, binI, retE, expE, andE, orE, notE, ifeE, chnE, tupE, lstE, alcE, slcE, optR, isiB, tyO, callE, toArgs, R.arg, tkT, tksC, absB, intB, tupleB, listB, allB, strB, iterE, Vw.iter, R.isRef, lkOf, rngE, forS, wasOwn, lockS, unlock, unlockR, clE, inBlk, metE, metK, Vw.kd, Ob.kd, mtOk, Mth.mode, chgD, Den.bad, isSheet, lineOk, szl, Vw.cmpD, eqO, D.eqp, D.pure, D.pureN]
    | a :: b :: c :: r =>
      have e : ¬ ((r.length : Int) + 1 + 1 + 1 = 2) := by omega
      simp [den, seqS, asgE, tkSub, asgD, subE, bin2, varE, pureE, vw, place, getOb, setOb, setO, subO, ixN, L2.ixN, Res.bind, R.toD, toDs, optE, binE, binO, addO, T.len, asgV, isLck, ifsS, tst, cmpE, cmpO, bltE, consE, nilE, vws, bltO, lenB, vwK, Res.ofO, truth, un1, negO, mulO, intO, binI, retE, expE, andE, orE, notE, ifeE, chnE, tupE, lstE, alcE, slcE, optR, isiB, tyO, callE, toArgs, R.arg, tkT, tksC, absB, intB, tupleB, listB, allB, strB, iterE, Vw.iter, R.isRef, lkOf, rngE, forS, wasOwn, lockS, unlock, unlockR, clE, inBlk, metE, metK, Vw.kd, Ob.kd, mtOk, Mth.mode, chgD, Den.bad, isSheet, lineOk, szl, Vw.cmpD, eqO, D.eqp, D.pure, D.pureN, e]
    | [s, u] =>
      simp only [flat, Bool.and_eq_true] at h
      obtain ⟨⟨⟨hs, hu⟩, hs2⟩, hu2⟩ := h
      cases s with
      | tup ss =>
        simp only [Bool.and_eq_true, List.all_eq_true, decide_eq_true_eq] at hs2
        cases u with
        | tup ns =>
          simp only [Bool.and_eq_true, List.all_eq_true, decide_eq_true_eq] at hu2
          have e0 := is_c0 G hG (.tup [.tup ss, .tup ns]) (.tup ss) ns M (fun d hd => tl_pure (hu2.1 d hd)) hu2.2
          have hf := derefs_pure M (ns.filter fun x => !numIn (-9999) 9999 x) fun d hd => hu2.1 d (List.mem_filter.mp hd).1
          match ss with
          | [] => simp [den, seqS, asgE, tkSub, asgD, subE, bin2, varE, pureE, vw, place, getOb, setOb, setO, subO, ixN, L2.ixN, Res.bind, R.toD, toDs, optE, binE, binO, addO, T.len, asgV, isLck, ifsS, tst, cmpE, cmpO, bltE, consE, nilE, vws, bltO, lenB, vwK, Res.ofO, truth, un1, negO, mulO, intO, binI, retE, expE, andE, orE, notE, ifeE, chnE, tupE, lstE, alcE, slcE, optR, isiB, tyO, callE, toArgs, R.arg, tkT, tksC, absB, intB, tupleB, listB, allB, strB, iterE, Vw.iter, R.isRef, lkOf, rngE, forS, wasOwn, lockS, unlock, unlockR, clE, inBlk, metE, metK, Vw.kd, Ob.kd, mtOk, Mth.mode, chgD, Den.bad, isSheet, lineOk, szl, Vw.cmpD, eqO, D.eqp, D.pure, D.pureN]
          | [a] => simp [den, seqS, asgE, tkSub, asgD, subE, bin2, varE, pureE, vw, place, getOb, setOb, setO, subO, ixN, L2.ixN, Res.bind, R.toD, toDs, optE, binE, binO, addO, T.len, asgV, isLck, ifsS, tst, cmpE, cmpO, bltE, consE, nilE, vws, bltO, lenB, vwK, Res.ofO, truth, un1, negO, mulO, intO, binI, retE, expE, andE, orE, notE, ifeE, chnE, tupE, lstE, alcE, slcE, optR, isiB, tyO, callE, toArgs, R.arg, tkT, tksC, absB, intB, tupleB, listB, allB, strB, iterE, Vw.iter, R.isRef, lkOf, rngE, forS, wasOwn, lockS, unlock, unlockR, clE, inBlk, metE, metK, Vw.kd, Ob.kd, mtOk, Mth.mode, chgD, Den.bad, isSheet, lineOk, szl, Vw.cmpD, eqO, D.eqp, D.pure, D.pureN]
          | a :: b :: c :: r =>
            have e : ((r.length : Int) + 1 + 1 + 1 == 2) = false := by rw [beq_eq_false_iff_ne]; omega
            simp [den, seqS, asgE, tkSub, asgD, subE, bin2, varE, pureE, vw, place, getOb, setOb, setO, subO, ixN, L2.ixN, Res.bind, R.toD, toDs, optE, binE, binO, addO, T.len, asgV, isLck, ifsS, tst, cmpE, cmpO, bltE, consE, nilE, vws, bltO, lenB, vwK, Res.ofO, truth, un1, negO, mulO, intO, binI, retE, expE, andE, orE, notE, ifeE, chnE, tupE, lstE, alcE, slcE, optR, isiB, tyO, callE, toArgs, R.arg, tkT, tksC, absB, intB, tupleB, listB, allB, strB, iterE, Vw.iter, R.isRef, lkOf, rngE, forS, wasOwn, lockS, unlock, unlockR, clE, inBlk, metE, metK, Vw.kd, Ob.kd, mtOk, Mth.mode, chgD, Den.bad, isSheet, lineOk, szl, Vw.cmpD, eqO, D.eqp, D.pure, D.pureN, e]
          | [a, b] =>
            have ga := hG a 1 8 M (hs2.1 a (by simp))
            have gb := hG b 1 8 M (hs2.1 b (by simp))
            have ta := hs2.1 a (by simp)
            have tb := hs2.1 b (by simp)
            have va : vw [some (SV.val (.tup [.tup [a, b], .tup ns])), some (SV.val (.tup [a, b])), some (SV.val (.tup ns)), none] M (.val a) = none → False := by cases a <;> simp [vw] <;> cases ta
            cases ha : numIn 1 8 a with
            | false =>
              rw [ha] at ga
              cases a <;> first | (cases ta; done) | simp [den, seqS, asgE, tkSub, asgD, subE, bin2, varE, pureE, vw, place, getOb, setOb, setO, subO, ixN, L2.ixN, Res.bind, R.toD, toDs, optE, binE, binO, addO, T.len, asgV, isLck, ifsS, tst, cmpE, cmpO, bltE, consE, nilE, vws, bltO, lenB, vwK, Res.ofO, truth, un1, negO, mulO, intO, binI, retE, expE, andE, orE, notE, ifeE, chnE, tupE, lstE, alcE, slcE, optR, isiB, tyO, callE, toArgs, R.arg, tkT, tksC, absB, intB, tupleB, listB, allB, strB, iterE, Vw.iter, R.isRef, lkOf, rngE, forS, wasOwn, lockS, unlock, unlockR, clE, inBlk, metE, metK, Vw.kd, Ob.kd, mtOk, Mth.mode, chgD, Den.bad, isSheet, lineOk, szl, Vw.cmpD, eqO, D.eqp, D.pure, D.pureN, ha, ga]
            | true =>
              cases hb : numIn 1 8 b with
              | false =>
                rw [ha] at ga
                rw [hb] at gb
                cases a <;> first | (cases ha; done) | (cases b <;> first | (cases tb; done) | simp [den, seqS, asgE, tkSub, asgD, subE, bin2, varE, pureE, vw, place, getOb, setOb, setO, subO, ixN, L2.ixN, Res.bind, R.toD, toDs, optE, binE, binO, addO, T.len, asgV, isLck, ifsS, tst, cmpE, cmpO, bltE, consE, nilE, vws, bltO, lenB, vwK, Res.ofO, truth, un1, negO, mulO, intO, binI, retE, expE, andE, orE, notE, ifeE, chnE, tupE, lstE, alcE, slcE, optR, isiB, tyO, callE, toArgs, R.arg, tkT, tksC, absB, intB, tupleB, listB, allB, strB, iterE, Vw.iter, R.isRef, lkOf, rngE, forS, wasOwn, lockS, unlock, unlockR, clE, inBlk, metE, metK, Vw.kd, Ob.kd, mtOk, Mth.mode, chgD, Den.bad, isSheet, lineOk, szl, Vw.cmpD, eqO, D.eqp, D.pure, D.pureN, ha, hb, ga, gb])
              | true =>
                rw [ha] at ga
                rw [hb] at gb
                cases a with
                | int x =>
                  cases b with
                  | int y =>
                    have ha' := ha
                    have hb' := hb
                    simp only [numIn, Bool.and_eq_true, decide_eq_true_eq] at ha' hb'
                    have b1 : big64 (x + 1) = true := by simp [big64]; omega
                    by_cases hz : (ns.length : Int) = (x + 1) * (y + 1)
                    · simp [den, seqS, asgE, tkSub, asgD, subE, bin2, varE, pureE, vw, place, getOb, setOb, setO, subO, ixN, L2.ixN, Res.bind, R.toD, toDs, optE, binE, binO, addO, T.len, asgV, isLck, ifsS, tst, cmpE, cmpO, bltE, consE, nilE, vws, bltO, lenB, vwK, Res.ofO, truth, un1, negO, mulO, intO, binI, retE, expE, andE, orE, notE, ifeE, chnE, tupE, lstE, alcE, slcE, optR, isiB, tyO, callE, toArgs, R.arg, tkT, tksC, absB, intB, tupleB, listB, allB, strB, iterE, Vw.iter, R.isRef, lkOf, rngE, forS, wasOwn, lockS, unlock, unlockR, clE, inBlk, metE, metK, Vw.kd, Ob.kd, mtOk, Mth.mode, chgD, Den.bad, isSheet, lineOk, szl, Vw.cmpD, eqO, D.eqp, D.pure, D.pureN, e0, ha, hb, ga, gb, b1, hz, hf, eqps_nil, filter_empty]
                    · simp [den, seqS, asgE, tkSub, asgD, subE, bin2, varE, pureE, vw, place, getOb, setOb, setO, subO, ixN, L2.ixN, Res.bind, R.toD, toDs, optE, binE, binO, addO, T.len, asgV, isLck, ifsS, tst, cmpE, cmpO, bltE, consE, nilE, vws, bltO, lenB, vwK, Res.ofO, truth, un1, negO, mulO, intO, binI, retE, expE, andE, orE, notE, ifeE, chnE, tupE, lstE, alcE, slcE, optR, isiB, tyO, callE, toArgs, R.arg, tkT, tksC, absB, intB, tupleB, listB, allB, strB, iterE, Vw.iter, R.isRef, lkOf, rngE, forS, wasOwn, lockS, unlock, unlockR, clE, inBlk, metE, metK, Vw.kd, Ob.kd, mtOk, Mth.mode, chgD, Den.bad, isSheet, lineOk, szl, Vw.cmpD, eqO, D.eqp, D.pure, D.pureN, e0, ha, hb, ga, gb, b1, hz]
                  | _ => cases hb
                | _ => cases ha
        | fd _ => cases hu
        | ref _ => cases hu
        | _ => cases hb2 : ((ss.length : Int) == 2) <;> simp [den, seqS, asgE, tkSub, asgD, subE, bin2, varE, pureE, vw, place, getOb, setOb, setO, subO, ixN, L2.ixN, Res.bind, R.toD, toDs, optE, binE, binO, addO, T.len, asgV, isLck, ifsS, tst, cmpE, cmpO, bltE, consE, nilE, vws, bltO, lenB, vwK, Res.ofO, truth, un1, negO, mulO, intO, binI, retE, expE, andE, orE, notE, ifeE, chnE, tupE, lstE, alcE, slcE, optR, isiB, tyO, callE, toArgs, R.arg, tkT, tksC, absB, intB, tupleB, listB, allB, strB, iterE, Vw.iter, R.isRef, lkOf, rngE, forS, wasOwn, lockS, unlock, unlockR, clE, inBlk, metE, metK, Vw.kd, Ob.kd, mtOk, Mth.mode, chgD, Den.bad, isSheet, lineOk, szl, Vw.cmpD, eqO, D.eqp, D.pure, D.pureN, hb2]
      | fd _ => cases hs
      | ref _ => cases hs
      | _ => simp [den, seqS, asgE, tkSub, asgD, subE, bin2, varE, pureE, vw, place, getOb, setOb, setO, subO, ixN, L2.ixN, Res.bind, R.toD, toDs, optE, binE, binO, addO, T.len, asgV, isLck, ifsS, tst, cmpE, cmpO, bltE, consE, nilE, vws, bltO, lenB, vwK, Res.ofO, truth, un1, negO, mulO, intO, binI, retE, expE, andE, orE, notE, ifeE, chnE, tupE, lstE, alcE, slcE, optR, isiB, tyO, callE, toArgs, R.arg, tkT, tksC, absB, intB, tupleB, listB, allB, strB, iterE, Vw.iter, R.isRef, lkOf, rngE, forS, wasOwn, lockS, unlock, unlockR, clE, inBlk, metE, metK, Vw.kd, Ob.kd, mtOk, Mth.mode, chgD, Den.bad, isSheet, lineOk, szl, Vw.cmpD, eqO, D.eqp, D.pure, D.pureN]
  | fd _ => cases h
  | ref _ => cases h
  | _ => simp [den, seqS, asgE, tkSub, asgD, subE, bin2, varE, pureE, vw, place, getOb, setOb, setO, subO, ixN, L2.ixN, Res.bind, R.toD, toDs, optE, binE, binO, addO, T.len, asgV, isLck, ifsS, tst, cmpE, cmpO, bltE, consE, nilE, vws, bltO, lenB, vwK, Res.ofO, truth, un1, negO, mulO, intO, binI, retE, expE, andE, orE, notE, ifeE, chnE, tupE, lstE, alcE, slcE, optR, isiB, tyO, callE, toArgs, R.arg, tkT, tksC, absB, intB, tupleB, listB, allB, strB, iterE, Vw.iter, R.isRef, lkOf, rngE, forS, wasOwn, lockS, unlock, unlockR, clE, inBlk, metE, metK, Vw.kd, Ob.kd, mtOk, Mth.mode, chgD, Den.bad, isSheet]
end Qk65

namespace Qk65
open Iv
/-- a number of a sheet -/
def okN (x : Int) : Prop := -9999 ≤ x ∧ x ≤ 9999
structure Dk (M : Mem) (c : Int) : Prop where
  ex : ∃ xs : List Int, M = decks xs c ∧ (∀ x ∈ xs, 0 ≤ x) ∧ xs.length ≤ 63
  lo : 0 ≤ c
theorem Dk.draw {G : Gam} (hD : DrawSp G) {M : Mem} {c m : Int} (h : Dk M c) (hc : c < 2 ^ 50) (h0 : 0 < m) (h1 : m < 2 ^ 20) : ∃ (v : Int) (M' : Mem), 0 ≤ v ∧ v < m ∧ Dk M' (c + 1) ∧ G 3 [.val (.ref 1), .val (.int m)] M = .ok (.val (.int v)) [] M' := by
  obtain ⟨xs, rfl, hx, hl⟩ := h.ex
  obtain ⟨v, xs', a1, a2, a3, a4, a5⟩ := hD xs c m ⟨hx, hl, h.lo, hc⟩ h0 h1
  exact ⟨v, _, a1, a2, ⟨⟨xs', rfl, a3, by omega⟩, by have := h.lo; omega⟩, a5⟩
theorem sheet_b0 (G : Gam) (hD : DrawSp G) (most a b kind : Int) (l : List Int) (M : Mem) (c : Int) (v5 v6 : Option D) (hM : Dk M c) (hc : c < 2 ^ 49) (hk : 0 ≤ kind ∧ kind < 5) (hl : l.length < 1000) :
    ∃ (x : Int) (w5 w6 : Option D) (M' : Mem) (c' : Int), okN x ∧ Dk M' c' ∧ c' ≤ c + 5 ∧ (den G law_sheet_b0).ex [some (.val (.ref 1)), some (.val (.int most)), some (.val (.tup [.int a, .int b])), some (.val (.int kind)), some (.own (.lst (l.map .int))), v5.map SV.val, v6.map SV.val] M =
      .ok .next [some (.val (.ref 1)), some (.val (.int most)), some (.val (.tup [.int a, .int b])), some (.val (.int kind)), some (.own (.lst ((l ++ [x]).map .int))), w5.map SV.val, w6.map SV.val] M' := by
  obtain ⟨v1, M1, p1, q1, d1, e1⟩ := hM.draw hD (m := 3) (by omega) (by decide) (by decide)
  obtain ⟨v2, M2, p2, q2, d2, e2⟩ := d1.draw hD (m := 7) (by omega) (by decide) (by decide)
  obtain ⟨v3, M3, p3, q3, d3, e3⟩ := d2.draw hD (m := 41) (by omega) (by decide) (by decide)
  obtain ⟨v4, M4, p4, q4, d4, e4⟩ := d3.draw hD (m := 2) (by omega) (by decide) (by decide)
  obtain ⟨v5', M5, p5, q5, d5, e5⟩ := d4.draw hD (m := 3) (by omega) (by decide) (by decide)
  have hl' : l.length < 16777216 := by omega
  have hk : kind = 0 ∨ kind = 1 ∨ kind = 2 ∨ kind = 3 ∨ kind = 4 := by omega
  unfold law_sheet_b0
  rcases hk with rfl | rfl | rfl | rfl | rfl
  · exact ⟨v1, v5, some (.int v1), M4, c + 1 + 1 + 1 + 1, ⟨by omega, by omega⟩, d4, by omega, by cases v6 <;> simp [den, seqS, asgE, tkSub, asgD, subE, bin2, varE, pureE, vw, place, getOb, setOb, setO, subO, ixN, L2.ixN, Res.bind, R.toD, toDs, optE, binE, binO, addO, T.len, asgV, isLck, ifsS, tst, cmpE, cmpO, bltE, consE, nilE, vws, bltO, lenB, vwK, Res.ofO, truth, un1, negO, mulO, intO, binI, retE, expE, andE, orE, notE, ifeE, chnE, tupE, lstE, alcE, slcE, optR, isiB, tyO, callE, toArgs, R.arg, tkT, tksC, absB, intB, tupleB, listB, allB, strB, iterE, Vw.iter, R.isRef, lkOf, rngE, forS, wasOwn, lockS, unlock, unlockR, clE, inBlk, metE, metK, Vw.kd, Ob.kd, mtOk, Mth.mode, chgD, Den.bad, e1, e2, e3, e4, szl, hl', lineOk, Vw.cmpD, eqO, D.eqp, D.pure, D.pureN]⟩
  · exact ⟨v2 - 3, v5, some (.int (v2 - 3)), M4, c + 1 + 1 + 1 + 1, ⟨by omega, by omega⟩, d4, by omega, by cases v6 <;> simp [den, seqS, asgE, tkSub, asgD, subE, bin2, varE, pureE, vw, place, getOb, setOb, setO, subO, ixN, L2.ixN, Res.bind, R.toD, toDs, optE, binE, binO, addO, T.len, asgV, isLck, ifsS, tst, cmpE, cmpO, bltE, consE, nilE, vws, bltO, lenB, vwK, Res.ofO, truth, un1, negO, mulO, intO, binI, retE, expE, andE, orE, notE, ifeE, chnE, tupE, lstE, alcE, slcE, optR, isiB, tyO, callE, toArgs, R.arg, tkT, tksC, absB, intB, tupleB, listB, allB, strB, iterE, Vw.iter, R.isRef, lkOf, rngE, forS, wasOwn, lockS, unlock, unlockR, clE, inBlk, metE, metK, Vw.kd, Ob.kd, mtOk, Mth.mode, chgD, Den.bad, e1, e2, e3, e4, szl, hl', lineOk, Vw.cmpD, eqO, D.eqp, D.pure, D.pureN]⟩
  · exact ⟨v3 - 20, v5, some (.int (v3 - 20)), M4, c + 1 + 1 + 1 + 1, ⟨by omega, by omega⟩, d4, by omega, by cases v6 <;> simp [den, seqS, asgE, tkSub, asgD, subE, bin2, varE, pureE, vw, place, getOb, setOb, setO, subO, ixN, L2.ixN, Res.bind, R.toD, toDs, optE, binE, binO, addO, T.len, asgV, isLck, ifsS, tst, cmpE, cmpO, bltE, consE, nilE, vws, bltO, lenB, vwK, Res.ofO, truth, un1, negO, mulO, intO, binI, retE, expE, andE, orE, notE, ifeE, chnE, tupE, lstE, alcE, slcE, optR, isiB, tyO, callE, toArgs, R.arg, tkT, tksC, absB, intB, tupleB, listB, allB, strB, iterE, Vw.iter, R.isRef, lkOf, rngE, forS, wasOwn, lockS, unlock, unlockR, clE, inBlk, metE, metK, Vw.kd, Ob.kd, mtOk, Mth.mode, chgD, Den.bad, e1, e2, e3, e4, szl, hl', lineOk, Vw.cmpD, eqO, D.eqp, D.pure, D.pureN]⟩
  · exact ⟨v4, v5, some (.int v4), M4, c + 1 + 1 + 1 + 1, ⟨by omega, by omega⟩, d4, by omega, by cases v6 <;> simp [den, seqS, asgE, tkSub, asgD, subE, bin2, varE, pureE, vw, place, getOb, setOb, setO, subO, ixN, L2.ixN, Res.bind, R.toD, toDs, optE, binE, binO, addO, T.len, asgV, isLck, ifsS, tst, cmpE, cmpO, bltE, consE, nilE, vws, bltO, lenB, vwK, Res.ofO, truth, un1, negO, mulO, intO, binI, retE, expE, andE, orE, notE, ifeE, chnE, tupE, lstE, alcE, slcE, optR, isiB, tyO, callE, toArgs, R.arg, tkT, tksC, absB, intB, tupleB, listB, allB, strB, iterE, Vw.iter, R.isRef, lkOf, rngE, forS, wasOwn, lockS, unlock, unlockR, clE, inBlk, metE, metK, Vw.kd, Ob.kd, mtOk, Mth.mode, chgD, Den.bad, e1, e2, e3, e4, szl, hl', lineOk, Vw.cmpD, eqO, D.eqp, D.pure, D.pureN]⟩
  · exact ⟨9999 * (v5' - 1), v5, some (.int (9999 * (v5' - 1))), M5, c + 1 + 1 + 1 + 1 + 1, ⟨by omega, by omega⟩, d5, by omega, by cases v6 <;> simp [den, seqS, asgE, tkSub, asgD, subE, bin2, varE, pureE, vw, place, getOb, setOb, setO, subO, ixN, L2.ixN, Res.bind, R.toD, toDs, optE, binE, binO, addO, T.len, asgV, isLck, ifsS, tst, cmpE, cmpO, bltE, consE, nilE, vws, bltO, lenB, vwK, Res.ofO, truth, un1, negO, mulO, intO, binI, retE, expE, andE, orE, notE, ifeE, chnE, tupE, lstE, alcE, slcE, optR, isiB, tyO, callE, toArgs, R.arg, tkT, tksC, absB, intB, tupleB, listB, allB, strB, iterE, Vw.iter, R.isRef, lkOf, rngE, forS, wasOwn, lockS, unlock, unlockR, clE, inBlk, metE, metK, Vw.kd, Ob.kd, mtOk, Mth.mode, chgD, Den.bad, e1, e2, e3, e4, e5, szl, hl', lineOk, Vw.cmpD, eqO, D.eqp, D.pure, D.pureN, big64]⟩
/-- a sheet as data -/
def shD (a b : Int) (ns : List Int) : D := .tup [.tup [.int a, .int b], .tup (ns.map .int)]
structure Sh (a b : Int) (ns : List Int) : Prop where
  a1 : 1 ≤ a ∧ a ≤ 8
  b1 : 1 ≤ b ∧ b ≤ 8
  len : (ns.length : Int) = (a + 1) * (b + 1)
  num : ∀ x ∈ ns, okN x
theorem area {a b : Int} (ha : 1 ≤ a ∧ a ≤ 8) (hb : 1 ≤ b ∧ b ≤ 8) : 0 < (a + 1) * (b + 1) ∧ (a + 1) * (b + 1) ≤ 81 := by
  have h1 : (a + 1) * (b + 1) ≤ 9 * 9 := Int.mul_le_mul (by omega) (by omega) (by omega) (by omega)
  have h2 : 0 < (a + 1) * (b + 1) := Int.mul_pos (by omega) (by omega)
  omega
theorem sheet_f0 (G : Gam) (hD : DrawSp G) (most a b kind : Int) (M : Mem) (c : Int) (hM : Dk M c) (hc : c < 2 ^ 48) (hk : 0 ≤ kind ∧ kind < 5) (ha : 1 ≤ a ∧ a ≤ 8) (hb : 1 ≤ b ∧ b ≤ 8) :
    ∃ (ns : List Int) (M' : Mem) (c' : Int), (ns.length : Int) = (a + 1) * (b + 1) ∧ (∀ x ∈ ns, okN x) ∧ Dk M' c' ∧ c' ≤ c + 405 ∧ (den G law_sheet_f0).ex [some (.val (.ref 1)), some (.val (.int most)), some (.val (.tup [.int a, .int b])), some (.val (.int kind)), some (.own (.lst [])), none, none] M =
      .ok .next [some (.val (.ref 1)), some (.val (.int most)), some (.val (.tup [.int a, .int b])), some (.val (.int kind)), some (.own (.lst (ns.map .int))), none, none] M' := by
  obtain ⟨A0, A1⟩ := area ha hb
  obtain ⟨env', M', e, ns, c', v5, v6, h1, h2, h3, h4, h5⟩ := goFor_inv (wip := [5, 6]) (tk := (den G (.tvar false 5)).tk) (b := (den G law_sheet_b0).ex) (fun k env M => ∃ (ns : List Int) (c' : Int) (v5 v6 : Option D), ns.length = k ∧ (∀ x ∈ ns, okN x) ∧ Dk M c' ∧ c' ≤ c + 5 * k ∧ env = [some (.val (.ref 1)), some (.val (.int most)), some (.val (.tup [.int a, .int b])), some (.val (.int kind)), some (.own (.lst (ns.map .int))), none, none])
    (rangeD 0 ((a + 1) * (b + 1)).toNat) 0 [some (.val (.ref 1)), some (.val (.int most)), some (.val (.tup [.int a, .int b])), some (.val (.int kind)), some (.own (.lst [])), none, none] M ⟨[], c, none, none, rfl, (by simp), hM, (by omega), rfl⟩ (fun i x env M1 hx ⟨ns, c1, v5, v6, h1, h2, h3, h4, h5⟩ => by
      subst h5
      have hi : i < (rangeD 0 ((a + 1) * (b + 1)).toNat).length := (List.getElem?_eq_some_iff.mp hx).1
      simp only [rangeD, List.length_map, List.length_range] at hi
      obtain ⟨y, w5, w6, M2, c2, p1, p2, p3, p4⟩ := sheet_b0 G hD most a b kind ns M1 c1 (some x) none h3 (by omega) hk (by omega)
      refine ⟨_, M1, _, M2, ?_, p4, ns ++ [y], c2, none, none, by simp [h1], fun z hz => ?_, p2, by omega, ?_⟩
      · simp [den, seqS, asgE, tkSub, asgD, subE, bin2, varE, pureE, vw, place, getOb, setOb, setO, subO, ixN, L2.ixN, Res.bind, R.toD, toDs, optE, binE, binO, addO, T.len, asgV, isLck, ifsS, tst, cmpE, cmpO, bltE, consE, nilE, vws, bltO, lenB, vwK, Res.ofO, truth, un1, negO, mulO, intO, binI, retE, expE, andE, orE, notE, ifeE, chnE, tupE, lstE, alcE, slcE, optR, isiB, tyO, callE, toArgs, R.arg, tkT, tksC, absB, intB, tupleB, listB, allB, strB, iterE, Vw.iter, R.isRef, lkOf, rngE, forS, wasOwn, lockS, unlock, unlockR, clE, inBlk, metE, metK, Vw.kd, Ob.kd, mtOk, Mth.mode, chgD, Den.bad]
      · rcases List.mem_append.mp hz with q | q
        · exact h2 z q
        · simp at q; subst q; exact p1
      · simp [wipeE])
  subst h5
  simp only [rangeD, List.length_map, List.length_range] at h1 h4
  refine ⟨ns, M', c', by omega, h2, h3, by omega, ?_⟩
  unfold law_sheet_f0
  have b1 : big64 (a + 1) = true := by simp [big64]; omega
  have r1 : -4611686018427387904 ≤ (a + 1) * (b + 1) ∧ (a + 1) * (b + 1) < 4611686018427387904 := by omega
  exact for_ex (l := rangeD 0 ((a + 1) * (b + 1)).toNat) (lk := none) (env1 := [some (.val (.ref 1)), some (.val (.int most)), some (.val (.tup [.int a, .int b])), some (.val (.int kind)), some (.own (.lst [])), none, none]) (M1 := M) (by simp [den, seqS, asgE, tkSub, asgD, subE, bin2, varE, pureE, vw, place, getOb, setOb, setO, subO, ixN, L2.ixN, Res.bind, R.toD, toDs, optE, binE, binO, addO, T.len, asgV, isLck, ifsS, tst, cmpE, cmpO, bltE, consE, nilE, vws, bltO, lenB, vwK, Res.ofO, truth, un1, negO, mulO, intO, binI, retE, expE, andE, orE, notE, ifeE, chnE, tupE, lstE, alcE, slcE, optR, isiB, tyO, callE, toArgs, R.arg, tkT, tksC, absB, intB, tupleB, listB, allB, strB, iterE, Vw.iter, R.isRef, lkOf, rngE, forS, wasOwn, lockS, unlock, unlockR, clE, inBlk, metE, metK, Vw.kd, Ob.kd, mtOk, Mth.mode, chgD, Den.bad, b1, r1]) rfl e
theorem sheet_fn (n : Nat) (most : Int) (M : Mem) (c : Int) (hM : Dk M c) (hc : c < 2 ^ 47) (hm : 0 < most ∧ most ≤ 8) :
    ∃ (a b : Int) (ns : List Int) (M' : Mem) (c' : Int), Sh a b ns ∧ Dk M' c' ∧ c' ≤ c + 408 ∧ call P (n + 2) 4 [.val (.ref 1), .val (.int most)] M = .ok (.val (shD a b ns)) [] M' := by
  have hD : DrawSp (call P (n + 1)) := draw_ok n
  have unf : ∀ as, call P (n + 2) 4 as M = runDef (call P (n + 1)) d_law_sheet as M := fun _ => rfl
  rw [unf]
  generalize call P (n + 1) = G at hD
  obtain ⟨v1, M1, p1, q1, d1, e1⟩ := hM.draw hD (m := most) (by omega) (by omega) (by omega)
  obtain ⟨v2, M2, p2, q2, d2, e2⟩ := d1.draw hD (m := most) (by omega) (by omega) (by omega)
  obtain ⟨v3, M3, p3, q3, d3, e3⟩ := d2.draw hD (m := 5) (by omega) (by decide) (by decide)
  obtain ⟨ns, M4, c4, f1, f2, f3, f4, f5⟩ := sheet_f0 G hD most (1 + v1) (1 + v2) v3 M3 _ d3 (by omega) ⟨p3, q3⟩ (by omega) (by omega)
  refine ⟨1 + v1, 1 + v2, ns, M4, c4, ⟨by omega, by omega, f1, f2⟩, f3, by omega, ?_⟩
  simp only [runDef, b_law_sheet, startE, d_law_sheet]
  simp [den, seqS, asgE, tkSub, asgD, subE, bin2, varE, pureE, vw, place, getOb, setOb, setO, subO, ixN, L2.ixN, Res.bind, R.toD, toDs, optE, binE, binO, addO, T.len, asgV, isLck, ifsS, tst, cmpE, cmpO, bltE, consE, nilE, vws, bltO, lenB, vwK, Res.ofO, truth, un1, negO, mulO, intO, binI, retE, expE, andE, orE, notE, ifeE, chnE, tupE, lstE, alcE, slcE, optR, isiB, tyO, callE, toArgs, R.arg, tkT, tksC, absB, intB, tupleB, listB, allB, strB, iterE, Vw.iter, R.isRef, lkOf, rngE, forS, wasOwn, lockS, unlock, unlockR, clE, inBlk, metE, metK, Vw.kd, Ob.kd, mtOk, Mth.mode, chgD, Den.bad, e1, e2, e3, f5, szl, lineOk, shD]
end Qk65

namespace Qk65
open Iv
/-- xs[i] -/
def atD (xs : List D) (i : Int) : Option D := (ixN xs.length i).bind fun j => xs[j]?
theorem subO_lst (xs : List D) (i : Int) : subO (.obj (.lst xs)) (.dat (.int i)) = atD xs i := rfl
theorem atD_ok (xs : List D) (v : Int) (h0 : 0 ≤ v) (h1 : v < (xs.length : Int)) : ∃ d, atD xs v = some d ∧ d ∈ xs := by
  obtain ⟨k, rfl⟩ := Int.eq_ofNat_of_zero_le h0
  have hk : k < xs.length := by omega
  refine ⟨xs[k], ?_, List.getElem_mem hk⟩
  have e : ixN xs.length (k : Int) = some k := by simp [ixN, L2.ixN, hk]
  simp [atD, e, hk]
/-- a small thing: data, not deep, its repr short -/
def Item (d : D) : Prop := D.pureN 50 d = true ∧ gd d = true ∧ szD d ≤ 10000
def Thing (d : D) : Prop := flat d = true ∧ D.pure d = true ∧ gd d = true ∧ szD d ≤ 10000000
theorem item_int {i : Int} (h : i.natAbs < 2 ^ 200) : Item (.int i) := ⟨rfl, by simp only [gd]; exact decide_eq_true h, by show 2000 ≤ 10000; decide⟩
theorem up {n m : Nat} {d : D} (h : D.pureN n d = true) (hm : n ≤ m) : D.pureN m d = true := (pure_up n m hm).1 d h
theorem len_szs : ∀ l : List D, 5 * l.length ≤ szs l
  | [] => by simp [szs]
  | x :: l => by
    have := len_szs l
    have : 3 ≤ szD x := by cases x <;> simp [szD] <;> omega
    simp only [szs, List.length_cons]; omega
structure Comp (d : D) : Prop where
  p : D.pureN 55 d = true
  g : gd d = true
  z : szD d ≤ 2100000
  t : tl d = true
  l : ∀ l, d = .tup l → (∀ x ∈ l, D.pure x = true) ∧ l.length ≤ 4096
theorem pures_mem : ∀ {n : Nat} {l : List D}, D.pureNs n l = true → ∀ x ∈ l, D.pureN n x = true
  | n, x :: l, h, y, hy => by
    simp only [D.pureNs, Bool.and_eq_true] at h
    rcases List.mem_cons.mp hy with e | e
    · subst e; exact h.1
    · exact pures_mem h.2 y e
theorem pures_of : ∀ {n : Nat} {l : List D}, (∀ x ∈ l, D.pureN n x = true) → D.pureNs n l = true
  | n, [], _ => rfl
  | n, x :: l, h => by simp only [D.pureNs, h x (by simp), pures_of fun y hy => h y (List.mem_cons_of_mem _ hy), Bool.and_self]
theorem Item.comp {d : D} (h : Item d) : Comp d := by
  refine ⟨up h.1 (by omega), h.2.1, by have := h.2.2; omega, tl_pure (up h.1 (by omega)), fun l e => ?_⟩
  subst e
  have h1 : D.pureNs 49 l = true := h.1
  have h2 : 3 + szs l ≤ 10000 := h.2.2
  have := len_szs l
  exact ⟨fun x hx => up (pures_mem h1 x hx) (by omega), by omega⟩
theorem Comp.list {l : List D} (h : ∀ x ∈ l, Item x) (hn : l.length ≤ 200) : Comp (.tup l) ∧ Comp (.fl l) := by
  have hp : D.pureNs 54 l = true := pures_of fun x hx => up (h x hx).1 (by omega)
  have hz : szs l ≤ 10002 * l.length := by
    clear hp hn
    induction l with
    | nil => simp [szs]
    | cons a l ih =>
      have := ih fun x hx => h x (List.mem_cons_of_mem _ hx)
      have := (h a (by simp)).2.2
      simp only [szs, List.length_cons]; omega
  have hg : gds l = true := by
    clear hp hn hz
    induction l with
    | nil => rfl
    | cons a l ih => simp only [gds, (h a (by simp)).2.1, ih fun x hx => h x (List.mem_cons_of_mem _ hx), Bool.and_self]
  refine ⟨⟨hp, hg, by simp only [szD]; omega, rfl, fun l' e => ?_⟩, ⟨hp, hg, by simp only [szD]; omega, rfl, fun l' e => by cases e⟩⟩
  cases e
  exact ⟨fun x hx => up (h x hx).1 (by omega), by omega⟩
theorem Comp.tlp {d : D} (h : Comp d) : tl d = true := h.t
theorem flat2 {s u : D} (hs : Comp s) (hu : Comp u) : flat (.tup [s, u]) = true := by
  simp only [flat, Bool.and_eq_true]
  refine ⟨⟨⟨hs.t, hu.t⟩, ?_⟩, ?_⟩
  · split
    · rename_i l
      obtain ⟨h1, h2⟩ := hs.l l rfl
      simp only [Bool.and_eq_true, List.all_eq_true, decide_eq_true_eq]
      exact ⟨fun x hx => tl_pure (h1 x hx), h2⟩
    · rfl
  · split
    · rename_i l
      obtain ⟨h1, h2⟩ := hu.l l rfl
      simp only [Bool.and_eq_true, List.all_eq_true, decide_eq_true_eq]
      exact ⟨h1, h2⟩
    · rfl
theorem thing2 {s u : D} (hs : Comp s) (hu : Comp u) : Thing (.tup [s, u]) := by
  refine ⟨flat2 hs hu, ?_, ?_, ?_⟩
  · show D.pureNs 59 [s, u] = true
    simp [D.pureNs, up hs.p (show 55 ≤ 59 by omega), up hu.p (show 55 ≤ 59 by omega)]
  · simp [gd, gds, hs.g, hu.g]
  · have := hs.z; have := hu.z
    simp only [szD, szs]; omega
theorem thing1 {s : D} (hs : Comp s) : Thing (.tup [s]) := by
  refine ⟨rfl, ?_, ?_, ?_⟩
  · show D.pureNs 59 [s] = true
    simp [D.pureNs, up hs.p (show 55 ≤ 59 by omega)]
  · simp [gd, gds, hs.g]
  · have := hs.z
    simp only [szD, szs]; omega
theorem thing3 {s u v : D} (hs : Comp s) (hu : Comp u) (hv : Comp v) : Thing (.tup [s, u, v]) := by
  refine ⟨rfl, ?_, ?_, ?_⟩
  · show D.pureNs 59 [s, u, v] = true
    simp [D.pureNs, up hs.p (show 55 ≤ 59 by omega), up hu.p (show 55 ≤ 59 by omega), up hv.p (show 55 ≤ 59 by omega)]
  · simp [gd, gds, hs.g, hu.g, hv.g]
  · have := hs.z; have := hu.z; have := hv.z
    simp only [szD, szs]; omega
theorem thingF {s u : D} (hs : Comp s) (hu : Comp u) : Thing (.fl [s, u]) := by
  refine ⟨rfl, ?_, ?_, ?_⟩
  · show D.pureNs 59 [s, u] = true
    simp [D.pureNs, up hs.p (show 55 ≤ 59 by omega), up hu.p (show 55 ≤ 59 by omega)]
  · simp [gd, gds, hs.g, hu.g]
  · have := hs.z; have := hu.z
    simp only [szD, szs]; omega
theorem item_tup {l : List Int} (h : ∀ x ∈ l, x.natAbs < 2 ^ 200) (hn : l.length ≤ 3) : Item (.tup (l.map .int)) := by
  refine ⟨?_, ?_, ?_⟩
  · show D.pureNs 49 (l.map .int) = true
    exact pures_of fun x hx => by obtain ⟨i, _, rfl⟩ := List.mem_map.mp hx; rfl
  · show gds (l.map .int) = true
    induction l with
    | nil => rfl
    | cons a l ih =>
      simp only [List.map_cons, gds, (item_int (h a (by simp))).2.1, ih (fun x hx => h x (List.mem_cons_of_mem _ hx)) (by simp at hn; omega), Bool.and_self]
  · have : szs (l.map .int) = 2002 * l.length := by
      clear h hn
      induction l with
      | nil => rfl
      | cons a l ih => simp only [List.map_cons, szs, ih, szD, List.length_cons]; omega
    show 3 + szs (l.map .int) ≤ 10000
    omega
theorem ints_items {ns : List Int} (h : ∀ x ∈ ns, okN x) : ∀ d ∈ ns.map D.int, Item d := fun d hd => by
  obtain ⟨i, hi, rfl⟩ := List.mem_map.mp hd
  obtain ⟨h1, h2⟩ := h i hi
  exact item_int (by omega)
theorem cut_mem {α : Type} {l : List α} {lo hi : Option Int} {x : α} (h : x ∈ cut l lo hi) : x ∈ l := List.mem_of_mem_drop (List.mem_of_mem_take h)
theorem cut_len {α : Type} (l : List α) (lo hi : Option Int) : (cut l lo hi).length ≤ l.length := by
  unfold cut; rw [List.length_take, List.length_drop]; omega
end Qk65

namespace Qk65
open Iv
def odds : List D := [.int 9999, .int (-9999), .int 10000, .int (-10000), .bl true, .non, .str "1", .tup [.int 1], .int 1000000000000000000000000000000000000000, .fl [], .bl false, .int 0]
theorem odds_item : ∀ d ∈ odds, Item d := by
  intro d hd
  simp only [odds, List.mem_cons, List.not_mem_nil, or_false] at hd
  rcases hd with rfl | rfl | rfl | rfl | rfl | rfl | rfl | rfl | rfl | rfl | rfl | rfl <;> exact ⟨by decide +kernel, by decide +kernel, by decide +kernel⟩
def somes (a b : Int) : List D := [.tup [.int 0, .int b], .tup [.int a, .int 9], .tup [.int a, .int b, .int 1], .tup [.int a], .fl [.int a, .int b], .non, .tup [.bl true, .int b], .tup [.int a, .int (-b)], .str "ab", .int a]
theorem somes_comp {a b : Int} (ha : 1 ≤ a ∧ a ≤ 8) (hb : 1 ≤ b ∧ b ≤ 8) : ∀ d ∈ somes a b, Comp d := by
  have two : ∀ x y : Int, x.natAbs < 2 ^ 200 → y.natAbs < 2 ^ 200 → Comp (.tup [.int x, .int y]) := fun x y h1 h2 => (item_tup (l := [x, y]) (by intro z hz; simp at hz; rcases hz with rfl | rfl <;> assumption) (by simp)).comp
  intro d hd
  simp only [somes, List.mem_cons, List.not_mem_nil, or_false] at hd
  rcases hd with rfl | rfl | rfl | rfl | rfl | rfl | rfl | rfl | rfl | rfl
  · exact two _ _ (by omega) (by omega)
  · exact two _ _ (by omega) (by omega)
  · exact (item_tup (l := [a, b, 1]) (by intro z hz; simp at hz; omega) (by simp)).comp
  · exact (item_tup (l := [a]) (by intro z hz; simp at hz; omega) (by simp)).comp
  · exact (Comp.list (l := [.int a, .int b]) (by intro z hz; simp at hz; rcases hz with rfl | rfl <;> exact item_int (by omega)) (by simp)).2
  · exact Item.comp ⟨by decide +kernel, by decide +kernel, by decide +kernel⟩
  · exact (Comp.list (l := [.bl true, .int b]) (by intro z hz; simp at hz; rcases hz with rfl | rfl; exact ⟨by decide +kernel, by decide +kernel, by decide +kernel⟩; exact item_int (by omega)) (by simp)).1
  · exact two _ _ (by omega) (by omega)
  · exact Item.comp ⟨by decide +kernel, by decide +kernel, by decide +kernel⟩
  · exact Item.comp (item_int (by omega))
def lasts : List D := [.non, .bl true, .int 0, .str "", .tup [], .fl [], .tup [.tup [], .tup []], .tup [.tup [.int 1, .int 1], .int 4]]
theorem lasts_thing : ∀ d ∈ lasts, Thing d := by
  intro d hd
  simp only [lasts, List.mem_cons, List.not_mem_nil, or_false] at hd
  rcases hd with rfl | rfl | rfl | rfl | rfl | rfl | rfl | rfl <;> exact ⟨by decide +kernel, by decide +kernel, by decide +kernel, by decide +kernel⟩
def env4 (a b : Int) (ns : List Int) (w at' : Int) (od : D) : Env := [some (.val (.ref 1)), some (.val (shD a b ns)), some (.val (.int w)), some (.val (.int a)), some (.val (.int b)), some (.val (.tup (ns.map .int))), some (.val (.int at')), some (.val od), none, none]
section
variable {G : Gam} {a b w at' o : Int} {ns : List Int} {od : D} {M M1 : Mem}
theorem b0 (h : G 3 [.val (.ref 1), .val (.int 9)] M = .ok (.val (.int w)) [] M1) : (den G law_bent_s0).ex [some (.val (.ref 1)), some (.val (shD a b ns)), none, none, none, none, none, none, none, none] M = .ok .next [some (.val (.ref 1)), some (.val (shD a b ns)), some (.val (.int w)), none, none, none, none, none, none, none] M1 := by
  unfold law_bent_s0
  simp [den, seqS, asgE, tkSub, asgD, subE, bin2, varE, pureE, vw, place, getOb, setOb, setO, Res.bind, R.toD, toDs, optE, binE, binO, addO, T.len, asgV, isLck, ifsS, tst, cmpE, cmpO, bltE, consE, nilE, vws, bltO, lenB, vwK, Res.ofO, truth, un1, negO, mulO, intO, binI, retE, expE, andE, orE, notE, ifeE, chnE, tupE, lstE, alcE, slcE, optR, isiB, tyO, callE, toArgs, R.arg, tkT, tksC, absB, intB, tupleB, listB, allB, strB, iterE, Vw.iter, R.isRef, lkOf, rngE, forS, wasOwn, lockS, unlock, unlockR, clE, inBlk, metE, metK, Vw.kd, Ob.kd, mtOk, Mth.mode, chgD, Den.bad, h]
theorem b1 : (den G law_bent_s1).ex [some (.val (.ref 1)), some (.val (shD a b ns)), some (.val (.int w)), none, none, none, none, none, none, none] M = .ok .next [some (.val (.ref 1)), some (.val (shD a b ns)), some (.val (.int w)), some (.val (.int a)), some (.val (.int b)), some (.val (.tup (ns.map .int))), none, none, none, none] M := by
  unfold law_bent_s1
  simp [den, seqS, asgE, tkSub, asgD, subE, bin2, varE, pureE, vw, place, getOb, setOb, setO, Res.bind, R.toD, toDs, optE, binE, binO, addO, T.len, asgV, isLck, ifsS, tst, cmpE, cmpO, bltE, consE, nilE, vws, bltO, lenB, vwK, Res.ofO, truth, un1, negO, mulO, intO, binI, retE, expE, andE, orE, notE, ifeE, chnE, tupE, lstE, alcE, slcE, optR, isiB, tyO, callE, toArgs, R.arg, tkT, tksC, absB, intB, tupleB, listB, allB, strB, iterE, Vw.iter, R.isRef, lkOf, rngE, forS, wasOwn, lockS, unlock, unlockR, clE, inBlk, metE, metK, Vw.kd, Ob.kd, mtOk, Mth.mode, chgD, Den.bad, shD]
theorem b2 (h : G 3 [.val (.ref 1), .val (.int (ns.length : Int))] M = .ok (.val (.int at')) [] M1) : (den G law_bent_s2).ex [some (.val (.ref 1)), some (.val (shD a b ns)), some (.val (.int w)), some (.val (.int a)), some (.val (.int b)), some (.val (.tup (ns.map .int))), none, none, none, none] M = .ok .next [some (.val (.ref 1)), some (.val (shD a b ns)), some (.val (.int w)), some (.val (.int a)), some (.val (.int b)), some (.val (.tup (ns.map .int))), some (.val (.int at')), none, none, none] M1 := by
  unfold law_bent_s2
  simp [den, seqS, asgE, tkSub, asgD, subE, bin2, varE, pureE, vw, place, getOb, setOb, setO, Res.bind, R.toD, toDs, optE, binE, binO, addO, T.len, asgV, isLck, ifsS, tst, cmpE, cmpO, bltE, consE, nilE, vws, bltO, lenB, vwK, Res.ofO, truth, un1, negO, mulO, intO, binI, retE, expE, andE, orE, notE, ifeE, chnE, tupE, lstE, alcE, slcE, optR, isiB, tyO, callE, toArgs, R.arg, tkT, tksC, absB, intB, tupleB, listB, allB, strB, iterE, Vw.iter, R.isRef, lkOf, rngE, forS, wasOwn, lockS, unlock, unlockR, clE, inBlk, metE, metK, Vw.kd, Ob.kd, mtOk, Mth.mode, chgD, Den.bad, h]
theorem b3 (h : G 3 [.val (.ref 1), .val (.int 12)] M = .ok (.val (.int o)) [] M1) (ho : atD odds o = some od) : (den G law_bent_s3).ex [some (.val (.ref 1)), some (.val (shD a b ns)), some (.val (.int w)), some (.val (.int a)), some (.val (.int b)), some (.val (.tup (ns.map .int))), some (.val (.int at')), none, none, none] M = .ok .next (env4 a b ns w at' od) M1 := by
  unfold odds at ho
  unfold law_bent_s3
  simp [den, seqS, asgE, tkSub, asgD, subE, bin2, varE, pureE, vw, place, getOb, setOb, setO, Res.bind, R.toD, toDs, optE, binE, binO, addO, T.len, asgV, isLck, ifsS, tst, cmpE, cmpO, bltE, consE, nilE, vws, bltO, lenB, vwK, Res.ofO, truth, un1, negO, mulO, intO, binI, retE, expE, andE, orE, notE, ifeE, chnE, tupE, lstE, alcE, slcE, optR, isiB, tyO, callE, toArgs, R.arg, tkT, tksC, absB, intB, tupleB, listB, allB, strB, iterE, Vw.iter, R.isRef, lkOf, rngE, forS, wasOwn, lockS, unlock, unlockR, clE, inBlk, metE, metK, Vw.kd, Ob.kd, mtOk, Mth.mode, chgD, Den.bad, subO_lst, h, ho, lineOk, szl, env4]
theorem skip0 (h : (w == 0) = false) : (den G law_bent_s4).ex (env4 a b ns w at' od) M = .ok .next (env4 a b ns w at' od) M := by
  unfold law_bent_s4
  simp [den, seqS, asgE, tkSub, asgD, subE, bin2, varE, pureE, vw, place, getOb, setOb, setO, Res.bind, R.toD, toDs, optE, binE, binO, addO, T.len, asgV, isLck, ifsS, tst, cmpE, cmpO, bltE, consE, nilE, vws, bltO, lenB, vwK, Res.ofO, truth, un1, negO, mulO, intO, binI, retE, expE, andE, orE, notE, ifeE, chnE, tupE, lstE, alcE, slcE, optR, isiB, tyO, callE, toArgs, R.arg, tkT, tksC, absB, intB, tupleB, listB, allB, strB, iterE, Vw.iter, R.isRef, lkOf, rngE, forS, wasOwn, lockS, unlock, unlockR, clE, inBlk, metE, metK, Vw.kd, Ob.kd, mtOk, Mth.mode, chgD, Den.bad, env4, Vw.cmpD, eqO, D.eqp, D.pure, D.pureN, h]
theorem skip1 (h : (w == 1) = false) : (den G law_bent_s5).ex (env4 a b ns w at' od) M = .ok .next (env4 a b ns w at' od) M := by
  unfold law_bent_s5
  simp [den, seqS, asgE, tkSub, asgD, subE, bin2, varE, pureE, vw, place, getOb, setOb, setO, Res.bind, R.toD, toDs, optE, binE, binO, addO, T.len, asgV, isLck, ifsS, tst, cmpE, cmpO, bltE, consE, nilE, vws, bltO, lenB, vwK, Res.ofO, truth, un1, negO, mulO, intO, binI, retE, expE, andE, orE, notE, ifeE, chnE, tupE, lstE, alcE, slcE, optR, isiB, tyO, callE, toArgs, R.arg, tkT, tksC, absB, intB, tupleB, listB, allB, strB, iterE, Vw.iter, R.isRef, lkOf, rngE, forS, wasOwn, lockS, unlock, unlockR, clE, inBlk, metE, metK, Vw.kd, Ob.kd, mtOk, Mth.mode, chgD, Den.bad, env4, Vw.cmpD, eqO, D.eqp, D.pure, D.pureN, h]
theorem skip2 (h : (w == 2) = false) : (den G law_bent_s6).ex (env4 a b ns w at' od) M = .ok .next (env4 a b ns w at' od) M := by
  unfold law_bent_s6
  simp [den, seqS, asgE, tkSub, asgD, subE, bin2, varE, pureE, vw, place, getOb, setOb, setO, Res.bind, R.toD, toDs, optE, binE, binO, addO, T.len, asgV, isLck, ifsS, tst, cmpE, cmpO, bltE, consE, nilE, vws, bltO, lenB, vwK, Res.ofO, truth, un1, negO, mulO, intO, binI, retE, expE, andE, orE, notE, ifeE, chnE, tupE, lstE, alcE, slcE, optR, isiB, tyO, callE, toArgs, R.arg, tkT, tksC, absB, intB, tupleB, listB, allB, strB, iterE, Vw.iter, R.isRef, lkOf, rngE, forS, wasOwn, lockS, unlock, unlockR, clE, inBlk, metE, metK, Vw.kd, Ob.kd, mtOk, Mth.mode, chgD, Den.bad, env4, Vw.cmpD, eqO, D.eqp, D.pure, D.pureN, h]
theorem skip3 (h : (w == 3) = false) : (den G law_bent_s7).ex (env4 a b ns w at' od) M = .ok .next (env4 a b ns w at' od) M := by
  unfold law_bent_s7
  simp [den, seqS, asgE, tkSub, asgD, subE, bin2, varE, pureE, vw, place, getOb, setOb, setO, Res.bind, R.toD, toDs, optE, binE, binO, addO, T.len, asgV, isLck, ifsS, tst, cmpE, cmpO, bltE, consE, nilE, vws, bltO, lenB, vwK, Res.ofO, truth, un1, negO, mulO, intO, binI, retE, expE, andE, orE, notE, ifeE, chnE, tupE, lstE, alcE, slcE, optR, isiB, tyO, callE, toArgs, R.arg, tkT, tksC, absB, intB, tupleB, listB, allB, strB, iterE, Vw.iter, R.isRef, lkOf, rngE, forS, wasOwn, lockS, unlock, unlockR, clE, inBlk, metE, metK, Vw.kd, Ob.kd, mtOk, Mth.mode, chgD, Den.bad, env4, Vw.cmpD, eqO, D.eqp, D.pure, D.pureN, h]
theorem skip4 (h : (w == 4) = false) : (den G law_bent_s8).ex (env4 a b ns w at' od) M = .ok .next (env4 a b ns w at' od) M := by
  unfold law_bent_s8
  simp [den, seqS, asgE, tkSub, asgD, subE, bin2, varE, pureE, vw, place, getOb, setOb, setO, Res.bind, R.toD, toDs, optE, binE, binO, addO, T.len, asgV, isLck, ifsS, tst, cmpE, cmpO, bltE, consE, nilE, vws, bltO, lenB, vwK, Res.ofO, truth, un1, negO, mulO, intO, binI, retE, expE, andE, orE, notE, ifeE, chnE, tupE, lstE, alcE, slcE, optR, isiB, tyO, callE, toArgs, R.arg, tkT, tksC, absB, intB, tupleB, listB, allB, strB, iterE, Vw.iter, R.isRef, lkOf, rngE, forS, wasOwn, lockS, unlock, unlockR, clE, inBlk, metE, metK, Vw.kd, Ob.kd, mtOk, Mth.mode, chgD, Den.bad, env4, Vw.cmpD, eqO, D.eqp, D.pure, D.pureN, h]
theorem skip5 (h : (w == 5) = false) : (den G law_bent_s9).ex (env4 a b ns w at' od) M = .ok .next (env4 a b ns w at' od) M := by
  unfold law_bent_s9
  simp [den, seqS, asgE, tkSub, asgD, subE, bin2, varE, pureE, vw, place, getOb, setOb, setO, Res.bind, R.toD, toDs, optE, binE, binO, addO, T.len, asgV, isLck, ifsS, tst, cmpE, cmpO, bltE, consE, nilE, vws, bltO, lenB, vwK, Res.ofO, truth, un1, negO, mulO, intO, binI, retE, expE, andE, orE, notE, ifeE, chnE, tupE, lstE, alcE, slcE, optR, isiB, tyO, callE, toArgs, R.arg, tkT, tksC, absB, intB, tupleB, listB, allB, strB, iterE, Vw.iter, R.isRef, lkOf, rngE, forS, wasOwn, lockS, unlock, unlockR, clE, inBlk, metE, metK, Vw.kd, Ob.kd, mtOk, Mth.mode, chgD, Den.bad, env4, Vw.cmpD, eqO, D.eqp, D.pure, D.pureN, h]
theorem skip6 (h : (w == 6) = false) : (den G law_bent_s10).ex (env4 a b ns w at' od) M = .ok .next (env4 a b ns w at' od) M := by
  unfold law_bent_s10
  simp [den, seqS, asgE, tkSub, asgD, subE, bin2, varE, pureE, vw, place, getOb, setOb, setO, Res.bind, R.toD, toDs, optE, binE, binO, addO, T.len, asgV, isLck, ifsS, tst, cmpE, cmpO, bltE, consE, nilE, vws, bltO, lenB, vwK, Res.ofO, truth, un1, negO, mulO, intO, binI, retE, expE, andE, orE, notE, ifeE, chnE, tupE, lstE, alcE, slcE, optR, isiB, tyO, callE, toArgs, R.arg, tkT, tksC, absB, intB, tupleB, listB, allB, strB, iterE, Vw.iter, R.isRef, lkOf, rngE, forS, wasOwn, lockS, unlock, unlockR, clE, inBlk, metE, metK, Vw.kd, Ob.kd, mtOk, Mth.mode, chgD, Den.bad, env4, Vw.cmpD, eqO, D.eqp, D.pure, D.pureN, h]
theorem skip7 (h : (w == 7) = false) : (den G law_bent_s11).ex (env4 a b ns w at' od) M = .ok .next (env4 a b ns w at' od) M := by
  unfold law_bent_s11
  simp [den, seqS, asgE, tkSub, asgD, subE, bin2, varE, pureE, vw, place, getOb, setOb, setO, Res.bind, R.toD, toDs, optE, binE, binO, addO, T.len, asgV, isLck, ifsS, tst, cmpE, cmpO, bltE, consE, nilE, vws, bltO, lenB, vwK, Res.ofO, truth, un1, negO, mulO, intO, binI, retE, expE, andE, orE, notE, ifeE, chnE, tupE, lstE, alcE, slcE, optR, isiB, tyO, callE, toArgs, R.arg, tkT, tksC, absB, intB, tupleB, listB, allB, strB, iterE, Vw.iter, R.isRef, lkOf, rngE, forS, wasOwn, lockS, unlock, unlockR, clE, inBlk, metE, metK, Vw.kd, Ob.kd, mtOk, Mth.mode, chgD, Den.bad, env4, Vw.cmpD, eqO, D.eqp, D.pure, D.pureN, h]
theorem way0 (h1 : (cut (ns.map D.int) none (some at')).length ≤ 81) (h2 : (cut (ns.map D.int) (some (at' + 1)) none).length ≤ 81) : (den G law_bent_s4).ex (env4 a b ns 0 at' od) M = .ok (.ret (.val (.tup [.tup [.int a, .int b], .tup (cut (ns.map D.int) none (some at') ++ od :: cut (ns.map D.int) (some (at' + 1)) none)]))) (env4 a b ns 0 at' od) M := by
  have k1 : (cut (ns.map D.int) none (some at')).length ≤ 16777215 := by omega
  have k2 : (cut (ns.map D.int) none (some at')).length + 1 + (cut (ns.map D.int) (some (at' + 1)) none).length ≤ 16777216 := by omega
  unfold law_bent_s4
  simp [den, seqS, asgE, tkSub, asgD, subE, bin2, varE, pureE, vw, place, getOb, setOb, setO, Res.bind, R.toD, toDs, optE, binE, binO, addO, T.len, asgV, isLck, ifsS, tst, cmpE, cmpO, bltE, consE, nilE, vws, bltO, lenB, vwK, Res.ofO, truth, un1, negO, mulO, intO, binI, retE, expE, andE, orE, notE, ifeE, chnE, tupE, lstE, alcE, slcE, optR, isiB, tyO, callE, toArgs, R.arg, tkT, tksC, absB, intB, tupleB, listB, allB, strB, iterE, Vw.iter, R.isRef, lkOf, rngE, forS, wasOwn, lockS, unlock, unlockR, clE, inBlk, metE, metK, Vw.kd, Ob.kd, mtOk, Mth.mode, chgD, Den.bad, env4, Vw.cmpD, eqO, D.eqp, D.pure, D.pureN, slcO, lineOk, szl, k1, k2]
theorem way1 (h1 : (cut (ns.map D.int) none (some at')).length ≤ 81) (h2 : (cut (ns.map D.int) (some (at' + 1)) none).length ≤ 81) : (den G law_bent_s5).ex (env4 a b ns 1 at' od) M = .ok (.ret (.val (.tup [.tup [.int a, .int b], .tup (cut (ns.map D.int) none (some at') ++ cut (ns.map D.int) (some (at' + 1)) none)]))) (env4 a b ns 1 at' od) M := by
  have k2 : (cut (ns.map D.int) none (some at')).length + (cut (ns.map D.int) (some (at' + 1)) none).length ≤ 16777216 := by omega
  unfold law_bent_s5
  simp [den, seqS, asgE, tkSub, asgD, subE, bin2, varE, pureE, vw, place, getOb, setOb, setO, Res.bind, R.toD, toDs, optE, binE, binO, addO, T.len, asgV, isLck, ifsS, tst, cmpE, cmpO, bltE, consE, nilE, vws, bltO, lenB, vwK, Res.ofO, truth, un1, negO, mulO, intO, binI, retE, expE, andE, orE, notE, ifeE, chnE, tupE, lstE, alcE, slcE, optR, isiB, tyO, callE, toArgs, R.arg, tkT, tksC, absB, intB, tupleB, listB, allB, strB, iterE, Vw.iter, R.isRef, lkOf, rngE, forS, wasOwn, lockS, unlock, unlockR, clE, inBlk, metE, metK, Vw.kd, Ob.kd, mtOk, Mth.mode, chgD, Den.bad, env4, Vw.cmpD, eqO, D.eqp, D.pure, D.pureN, slcO, lineOk, szl, k2]
theorem way2 (h1 : ns.length ≤ 81) (h2 : (cut (ns.map D.int) (some at') (some (at' + 1))).length ≤ 81) : (den G law_bent_s6).ex (env4 a b ns 2 at' od) M = .ok (.ret (.val (.tup [.tup [.int a, .int b], .tup (ns.map D.int ++ cut (ns.map D.int) (some at') (some (at' + 1)))]))) (env4 a b ns 2 at' od) M := by
  have k2 : ns.length + (cut (ns.map D.int) (some at') (some (at' + 1))).length ≤ 16777216 := by omega
  unfold law_bent_s6
  simp [den, seqS, asgE, tkSub, asgD, subE, bin2, varE, pureE, vw, place, getOb, setOb, setO, Res.bind, R.toD, toDs, optE, binE, binO, addO, T.len, asgV, isLck, ifsS, tst, cmpE, cmpO, bltE, consE, nilE, vws, bltO, lenB, vwK, Res.ofO, truth, un1, negO, mulO, intO, binI, retE, expE, andE, orE, notE, ifeE, chnE, tupE, lstE, alcE, slcE, optR, isiB, tyO, callE, toArgs, R.arg, tkT, tksC, absB, intB, tupleB, listB, allB, strB, iterE, Vw.iter, R.isRef, lkOf, rngE, forS, wasOwn, lockS, unlock, unlockR, clE, inBlk, metE, metK, Vw.kd, Ob.kd, mtOk, Mth.mode, chgD, Den.bad, env4, Vw.cmpD, eqO, D.eqp, D.pure, D.pureN, slcO, lineOk, szl, k2]
theorem way3 : (den G law_bent_s7).ex (env4 a b ns 3 at' od) M = .ok (.ret (.val (.tup [.tup [.int b, .int a], .tup (ns.map D.int)]))) (env4 a b ns 3 at' od) M := by
  unfold law_bent_s7
  simp [den, seqS, asgE, tkSub, asgD, subE, bin2, varE, pureE, vw, place, getOb, setOb, setO, Res.bind, R.toD, toDs, optE, binE, binO, addO, T.len, asgV, isLck, ifsS, tst, cmpE, cmpO, bltE, consE, nilE, vws, bltO, lenB, vwK, Res.ofO, truth, un1, negO, mulO, intO, binI, retE, expE, andE, orE, notE, ifeE, chnE, tupE, lstE, alcE, slcE, optR, isiB, tyO, callE, toArgs, R.arg, tkT, tksC, absB, intB, tupleB, listB, allB, strB, iterE, Vw.iter, R.isRef, lkOf, rngE, forS, wasOwn, lockS, unlock, unlockR, clE, inBlk, metE, metK, Vw.kd, Ob.kd, mtOk, Mth.mode, chgD, Den.bad, env4, Vw.cmpD, eqO, D.eqp, D.pure, D.pureN, slcO, lineOk, szl]
theorem way4 {v : Int} {d : D} (h : G 3 [.val (.ref 1), .val (.int 10)] M = .ok (.val (.int v)) [] M1) (hd : atD (somes a b) v = some d) : ∃ env', (den G law_bent_s8).ex (env4 a b ns 4 at' od) M = .ok (.ret (.val (.tup [d, .tup (ns.map D.int)]))) env' M1 := by
  unfold somes at hd
  unfold law_bent_s8
  refine ⟨[some (.val (.ref 1)), some (.val (shD a b ns)), some (.val (.int 4)), some (.val (.int a)), some (.val (.int b)), some (.val (.tup (ns.map .int))), some (.val (.int at')), some (.val od), some (.val d), none], ?_⟩
  simp [den, seqS, asgE, tkSub, asgD, subE, bin2, varE, pureE, vw, place, getOb, setOb, setO, Res.bind, R.toD, toDs, optE, binE, binO, addO, T.len, asgV, isLck, ifsS, tst, cmpE, cmpO, bltE, consE, nilE, vws, bltO, lenB, vwK, Res.ofO, truth, un1, negO, mulO, intO, binI, retE, expE, andE, orE, notE, ifeE, chnE, tupE, lstE, alcE, slcE, optR, isiB, tyO, callE, toArgs, R.arg, tkT, tksC, absB, intB, tupleB, listB, allB, strB, iterE, Vw.iter, R.isRef, lkOf, rngE, forS, wasOwn, lockS, unlock, unlockR, clE, inBlk, metE, metK, Vw.kd, Ob.kd, mtOk, Mth.mode, chgD, Den.bad, subO_lst, env4, Vw.cmpD, eqO, D.eqp, D.pure, D.pureN, slcO, lineOk, szl, h, hd]
theorem way5 {v : Int} {d : D} (h : G 3 [.val (.ref 1), .val (.int 4)] M = .ok (.val (.int v)) [] M1) (hd : atD [.fl [.tup [.int a, .int b], .tup (ns.map .int)], .tup [.tup [.int a, .int b], .fl (ns.map .int)], .tup [.tup (ns.map .int), .tup [.int a, .int b]], .tup [.tup [.int a, .int b]]] v = some d) : (den G law_bent_s9).ex (env4 a b ns 5 at' od) M = .ok (.ret (.val d)) (env4 a b ns 5 at' od) M1 := by
  unfold law_bent_s9
  simp [den, seqS, asgE, tkSub, asgD, subE, bin2, varE, pureE, vw, place, getOb, setOb, setO, Res.bind, R.toD, toDs, optE, binE, binO, addO, T.len, asgV, isLck, ifsS, tst, cmpE, cmpO, bltE, consE, nilE, vws, bltO, lenB, vwK, Res.ofO, truth, un1, negO, mulO, intO, binI, retE, expE, andE, orE, notE, ifeE, chnE, tupE, lstE, alcE, slcE, optR, isiB, tyO, callE, toArgs, R.arg, tkT, tksC, absB, intB, tupleB, listB, allB, strB, iterE, Vw.iter, R.isRef, lkOf, rngE, forS, wasOwn, lockS, unlock, unlockR, clE, inBlk, metE, metK, Vw.kd, Ob.kd, mtOk, Mth.mode, chgD, Den.bad, subO_lst, env4, Vw.cmpD, eqO, D.eqp, D.pure, D.pureN, slcO, lineOk, szl, h, hd]
theorem way6 : (den G law_bent_s10).ex (env4 a b ns 6 at' od) M = .ok (.ret (.val (.tup [.tup [.int a, .int b], .tup (ns.map D.int), .int 0]))) (env4 a b ns 6 at' od) M := by
  unfold law_bent_s10
  simp [den, seqS, asgE, tkSub, asgD, subE, bin2, varE, pureE, vw, place, getOb, setOb, setO, Res.bind, R.toD, toDs, optE, binE, binO, addO, T.len, asgV, isLck, ifsS, tst, cmpE, cmpO, bltE, consE, nilE, vws, bltO, lenB, vwK, Res.ofO, truth, un1, negO, mulO, intO, binI, retE, expE, andE, orE, notE, ifeE, chnE, tupE, lstE, alcE, slcE, optR, isiB, tyO, callE, toArgs, R.arg, tkT, tksC, absB, intB, tupleB, listB, allB, strB, iterE, Vw.iter, R.isRef, lkOf, rngE, forS, wasOwn, lockS, unlock, unlockR, clE, inBlk, metE, metK, Vw.kd, Ob.kd, mtOk, Mth.mode, chgD, Den.bad, env4, Vw.cmpD, eqO, D.eqp, D.pure, D.pureN, slcO, lineOk, szl]
theorem way7 {v : Int} (h : G 3 [.val (.ref 1), .val (.int 12)] M = .ok (.val (.int v)) [] M1) (h0 : 0 ≤ v) (h1 : v < 12) : ∃ env', (den G law_bent_s11).ex (env4 a b ns 7 at' od) M = .ok (.ret (.val (.tup [.tup [.int v, .int 1], .tup (List.replicate (2 * v + 2).toNat [D.int 0]).flatten]))) env' M1 := by
  have k1 : 2 ≤ 2 * v + 2 ∧ 2 * v + 2 ≤ 1000 := by omega
  unfold law_bent_s11
  refine ⟨[some (.val (.ref 1)), some (.val (shD a b ns)), some (.val (.int 7)), some (.val (.int a)), some (.val (.int b)), some (.val (.tup (ns.map .int))), some (.val (.int at')), some (.val od), none, some (.val (.int v))], ?_⟩
  simp [den, seqS, asgE, tkSub, asgD, subE, bin2, varE, pureE, vw, place, getOb, setOb, setO, Res.bind, R.toD, toDs, optE, binE, binO, addO, T.len, asgV, isLck, ifsS, tst, cmpE, cmpO, bltE, consE, nilE, vws, bltO, lenB, vwK, Res.ofO, truth, un1, negO, mulO, intO, binI, retE, expE, andE, orE, notE, ifeE, chnE, tupE, lstE, alcE, slcE, optR, isiB, tyO, callE, toArgs, R.arg, tkT, tksC, absB, intB, tupleB, listB, allB, strB, iterE, Vw.iter, R.isRef, lkOf, rngE, forS, wasOwn, lockS, unlock, unlockR, clE, inBlk, metE, metK, Vw.kd, Ob.kd, mtOk, Mth.mode, chgD, Den.bad, env4, Vw.cmpD, eqO, D.eqp, D.pure, D.pureN, slcO, lineOk, szl, h, k1, big64, h0]
theorem way8 {v : Int} {d : D} (h : G 3 [.val (.ref 1), .val (.int 8)] M = .ok (.val (.int v)) [] M1) (hd : atD lasts v = some d) : (den G law_bent_s12).ex (env4 a b ns 8 at' od) M = .ok (.ret (.val d)) (env4 a b ns 8 at' od) M1 := by
  unfold lasts at hd
  unfold law_bent_s12
  simp [den, seqS, asgE, tkSub, asgD, subE, bin2, varE, pureE, vw, place, getOb, setOb, setO, Res.bind, R.toD, toDs, optE, binE, binO, addO, T.len, asgV, isLck, ifsS, tst, cmpE, cmpO, bltE, consE, nilE, vws, bltO, lenB, vwK, Res.ofO, truth, un1, negO, mulO, intO, binI, retE, expE, andE, orE, notE, ifeE, chnE, tupE, lstE, alcE, slcE, optR, isiB, tyO, callE, toArgs, R.arg, tkT, tksC, absB, intB, tupleB, listB, allB, strB, iterE, Vw.iter, R.isRef, lkOf, rngE, forS, wasOwn, lockS, unlock, unlockR, clE, inBlk, metE, metK, Vw.kd, Ob.kd, mtOk, Mth.mode, chgD, Den.bad, subO_lst, env4, Vw.cmpD, eqO, D.eqp, D.pure, D.pureN, slcO, lineOk, szl, h, hd]
end
end Qk65

namespace Qk65
open Iv
theorem bent_ok (G : Gam) (hD : DrawSp G) (a b : Int) (ns : List Int) (M : Mem) (c : Int) (hM : Dk M c) (hc : c < 2 ^ 48) (h : Sh a b ns) :
    ∃ (d : D) (M' : Mem) (c' : Int), Thing d ∧ Dk M' c' ∧ c' ≤ c + 4 ∧ runDef G d_law_bent [.val (.ref 1), .val (shD a b ns)] M = .ok (.val d) [] M' := by
  obtain ⟨A0, A1⟩ := area h.a1 h.b1
  have hlen := h.len
  have hn0 : 0 < (ns.length : Int) := by omega
  have hn1 : (ns.length : Int) < 2 ^ 20 := by omega
  have hn2 : ns.length ≤ 81 := by omega
  obtain ⟨w, M1, p1, q1, d1, e1⟩ := hM.draw hD (m := 9) (by omega) (by decide) (by decide)
  obtain ⟨at', M2, p2, q2, d2, e2⟩ := d1.draw hD (m := (ns.length : Int)) (by omega) hn0 hn1
  obtain ⟨o, M3, p3, q3, d3, e3⟩ := d2.draw hD (m := 12) (by omega) (by decide) (by decide)
  obtain ⟨od, ho, hmo⟩ := atD_ok odds o p3 (by show o < 12; exact q3)
  have hoi := odds_item od hmo
  have hab : Comp (.tup [.int a, .int b]) := (item_tup (l := [a, b]) (by intro x hx; have := h.a1; have := h.b1; simp at hx; omega) (by simp)).comp
  have hba : Comp (.tup [.int b, .int a]) := (item_tup (l := [b, a]) (by intro x hx; have := h.a1; have := h.b1; simp at hx; omega) (by simp)).comp
  have hns := ints_items h.num
  have hnl : (ns.map D.int).length ≤ 81 := by simp; omega
  have hcn := Comp.list hns (by omega)
  have z0 : Comp (.int 0) := Item.comp (item_int (by decide))
  have c1 := Nat.le_trans (cut_len (ns.map D.int) none (some at')) hnl
  have c2 := Nat.le_trans (cut_len (ns.map D.int) (some (at' + 1)) none) hnl
  have c3 := Nat.le_trans (cut_len (ns.map D.int) (some at') (some (at' + 1))) hnl
  have fin : ∀ {d : D} {env' : Env} {M' : Mem} {c' : Int}, Thing d → Dk M' c' → c' ≤ c + 4 → (den G d_law_bent.body).ex (startE d_law_bent [.val (.ref 1), .val (shD a b ns)]) M = .ok (.ret (.val d)) env' M' →
      ∃ (d : D) (M' : Mem) (c' : Int), Thing d ∧ Dk M' c' ∧ c' ≤ c + 4 ∧ runDef G d_law_bent [.val (.ref 1), .val (shD a b ns)] M = .ok (.val d) [] M' := fun {d env' M' c'} t k l e => ⟨d, M', c', t, k, l, run_ret rfl e⟩
  have go : ∀ {t : T} {r : Res Flow}, d_law_bent.body = .cons law_bent_s0 (.cons law_bent_s1 (.cons law_bent_s2 (.cons law_bent_s3 t))) → (den G t).ex (env4 a b ns w at' od) M3 = r → (den G d_law_bent.body).ex (startE d_law_bent [.val (.ref 1), .val (shD a b ns)]) M = r := fun {t r} e1' e2' => by
    rw [e1', ← e2']
    exact (seq_next (b0 e1)).trans ((seq_next b1).trans ((seq_next (b2 e2)).trans (seq_next (b3 e3 ho))))
  have hw : w = 0 ∨ w = 1 ∨ w = 2 ∨ w = 3 ∨ w = 4 ∨ w = 5 ∨ w = 6 ∨ w = 7 ∨ w = 8 := by omega
  rcases hw with rfl | rfl | rfl | rfl | rfl | rfl | rfl | rfl | rfl
  · refine fin (thing2 hab (Comp.list (fun x hx => ?_) ?_).1) d3 (by omega) (go rfl (seq_ret (way0 c1 c2)))
    · rcases List.mem_append.mp hx with hx | hx
      · exact hns x (cut_mem hx)
      · rcases List.mem_cons.mp hx with rfl | hx
        · exact hoi
        · exact hns x (cut_mem hx)
    · simp only [List.length_append, List.length_cons]; omega
  · refine fin (thing2 hab (Comp.list (fun x hx => ?_) ?_).1) d3 (by omega) (go rfl ((seq_next (skip0 rfl)).trans (seq_ret (way1 c1 c2))))
    · rcases List.mem_append.mp hx with hx | hx
      · exact hns x (cut_mem hx)
      · exact hns x (cut_mem hx)
    · simp only [List.length_append]; omega
  · refine fin (thing2 hab (Comp.list (fun x hx => ?_) ?_).1) d3 (by omega) (go rfl ((seq_next (skip0 rfl)).trans ((seq_next (skip1 rfl)).trans (seq_ret (way2 hn2 c3)))))
    · rcases List.mem_append.mp hx with hx | hx
      · exact hns x hx
      · exact hns x (cut_mem hx)
    · simp only [List.length_append]; omega
  · exact fin (thing2 hba hcn.1) d3 (by omega) (go rfl ((seq_next (skip0 rfl)).trans ((seq_next (skip1 rfl)).trans ((seq_next (skip2 rfl)).trans (seq_ret way3)))))
  · obtain ⟨v, M4, p4, q4, d4, e4⟩ := d3.draw hD (m := 10) (by omega) (by decide) (by decide)
    obtain ⟨s, hs, hms⟩ := atD_ok (somes a b) v p4 (by show v < 10; exact q4)
    obtain ⟨env', e5⟩ := way4 (at' := at') (ns := ns) (od := od) e4 hs
    exact fin (thing2 (somes_comp h.a1 h.b1 s hms) hcn.1) d4 (by omega) (go rfl ((seq_next (skip0 rfl)).trans ((seq_next (skip1 rfl)).trans ((seq_next (skip2 rfl)).trans ((seq_next (skip3 rfl)).trans (seq_ret e5))))))
  · obtain ⟨v, M4, p4, q4, d4, e4⟩ := d3.draw hD (m := 4) (by omega) (by decide) (by decide)
    obtain ⟨s, hs, hms⟩ := atD_ok [.fl [.tup [.int a, .int b], .tup (ns.map .int)], .tup [.tup [.int a, .int b], .fl (ns.map .int)], .tup [.tup (ns.map .int), .tup [.int a, .int b]], .tup [.tup [.int a, .int b]]] v p4 (by show v < 4; exact q4)
    refine fin (d := s) ?_ d4 (by omega) (go rfl ((seq_next (skip0 rfl)).trans ((seq_next (skip1 rfl)).trans ((seq_next (skip2 rfl)).trans ((seq_next (skip3 rfl)).trans ((seq_next (skip4 rfl)).trans (seq_ret (way5 e4 hs))))))))
    simp only [List.mem_cons, List.not_mem_nil, or_false] at hms
    rcases hms with rfl | rfl | rfl | rfl
    · exact thingF hab hcn.1
    · exact thing2 hab hcn.2
    · exact thing2 hcn.1 hab
    · exact thing1 hab
  · exact fin (thing3 hab hcn.1 z0) d3 (by omega) (go rfl ((seq_next (skip0 rfl)).trans ((seq_next (skip1 rfl)).trans ((seq_next (skip2 rfl)).trans ((seq_next (skip3 rfl)).trans ((seq_next (skip4 rfl)).trans ((seq_next (skip5 rfl)).trans (seq_ret way6))))))))
  · obtain ⟨v, M4, p4, q4, d4, e4⟩ := d3.draw hD (m := 12) (by omega) (by decide) (by decide)
    obtain ⟨env', e5⟩ := way7 (at' := at') (ns := ns) (od := od) (a := a) (b := b) e4 p4 q4
    refine fin (thing2 ?_ (Comp.list (l := (List.replicate (2 * v + 2).toNat [D.int 0]).flatten) (fun x hx => ?_) ?_).1) d4 (by omega) (go rfl ((seq_next (skip0 rfl)).trans ((seq_next (skip1 rfl)).trans ((seq_next (skip2 rfl)).trans ((seq_next (skip3 rfl)).trans ((seq_next (skip4 rfl)).trans ((seq_next (skip5 rfl)).trans ((seq_next (skip6 rfl)).trans (seq_ret e5)))))))))
    · exact (item_tup (l := [v, 1]) (by intro x hx; simp at hx; omega) (by simp)).comp
    · obtain ⟨l, hl, hx⟩ := List.mem_flatten.mp hx
      have := (List.mem_replicate.mp hl).2
      subst this
      simp at hx; subst hx
      exact item_int (by decide)
    · have : ∀ n : Nat, (List.replicate n [D.int 0]).flatten.length = n := fun n => by
        induction n with
        | zero => rfl
        | succ n ih => rw [List.replicate_succ, List.flatten_cons, List.length_append, ih]; simp; omega
      rw [this]; omega
  · obtain ⟨v, M4, p4, q4, d4, e4⟩ := d3.draw hD (m := 8) (by omega) (by decide) (by decide)
    obtain ⟨s, hs, hms⟩ := atD_ok lasts v p4 (by show v < 8; exact q4)
    exact fin (lasts_thing s hms) d4 (by omega) (go rfl ((seq_next (skip0 rfl)).trans ((seq_next (skip1 rfl)).trans ((seq_next (skip2 rfl)).trans ((seq_next (skip3 rfl)).trans ((seq_next (skip4 rfl)).trans ((seq_next (skip5 rfl)).trans ((seq_next (skip6 rfl)).trans ((seq_next (skip7 rfl)).trans (seq_ret (way8 e4 hs))))))))))) 
end Qk65

namespace Qk65
open Iv
theorem view_pure {env : Env} {M : Mem} {d : D} (h : D.pure d = true) : ∃ v, vw env M (.val d) = some v ∧ v.cmpD [] = some d := by
  cases d with
  | non => exact ⟨_, rfl, rfl⟩
  | bl b => exact ⟨_, rfl, rfl⟩
  | int i => exact ⟨_, rfl, rfl⟩
  | str x => exact ⟨_, rfl, by simp [Vw.cmpD, h]⟩
  | tup xs => exact ⟨_, rfl, by have h : D.pures xs = true := h; simp [Vw.cmpD, h]⟩
  | fl xs =>
    refine ⟨_, rfl, ?_⟩
    have hp : D.pureNs 59 xs = true := h
    show (xs.mapM (D.deref [])).map D.fl = _
    rw [derefs_pure [] xs fun x hx => up (pures_mem hp x hx) (by omega)]
    rfl
  | fd _ => simp [D.pure, D.pureN] at h
  | ref _ => simp [D.pure, D.pureN] at h
theorem repr_ev {G : Gam} {env : Env} {M : Mem} {i : Nat} {d : D} (h : env[i]? = some (some (.val d))) (t : Thing d) : (den G (.blt .repr (.cons (.var i) .nil))).ev env M = .ok (.val (.str (D.toP d).shown)) env M := by
  obtain ⟨v, h1, h2⟩ := view_pure (env := env) (M := M) t.2.1
  obtain ⟨s1, s2⟩ := repr_of t.2.1 t.2.2.1 t.2.2.2
  simp [den, Den.bad, bltE, consE, nilE, varE, h, Res.bind, vws, h1, bltO, reprB, h2, s1, s2, optE]
theorem call_ev {G : Gam} {env : Env} {M M' : Mem} {i f : Nat} {d : D} {r : R} (h : env[i]? = some (some (.val d))) (hc : G f [.val d] M = .ok r [] M') : (den G (.call f (.cons (.var i) .nil))).ev env M = .ok r env M' := by
  simp [den, Den.bad, callE, consE, nilE, varE, h, Res.bind, toArgs, R.arg, hc]
theorem ne_ev {G : Gam} {env : Env} {M : Mem} {a b : T} {x y : Bool} (ha : (den G a).ev env M = .ok (.val (.bl x)) env M) (hb : (den G b).ev env M = .ok (.val (.bl x)) env M) : (den G (.cmp .ne a b)).ev env M = .ok (.val (.bl false)) env M := by
  show (bin2 _ (den G a).ev (den G b).ev) env M = _
  unfold bin2
  rw [ha]
  simp only [Res.bind]
  rw [hb]
  simp [Res.bind, vw, cmpO, eqO, Vw.cmpD, D.pure, D.pureN, D.eqp, optE]
theorem nes_ev {G : Gam} {env : Env} {M : Mem} {a b : T} {x : PySem.Str} (ha : (den G a).ev env M = .ok (.val (.str x)) env M) (hb : (den G b).ev env M = .ok (.val (.str x)) env M) : (den G (.cmp .ne a b)).ev env M = .ok (.val (.bl false)) env M := by
  show (bin2 _ (den G a).ev (den G b).ev) env M = _
  unfold bin2
  rw [ha]
  simp only [Res.bind]
  rw [hb]
  simp [Res.bind, vw, cmpO, eqO, optE]
theorem var_ev {G : Gam} {env : Env} {M : Mem} {i : Nat} {d : D} (h : env[i]? = some (some (.val d))) : (den G (.var i)).ev env M = .ok (.val d) env M := by
  simp [den, Den.bad, varE, h]
/-- what stands behind the thing's choice -/
def tail : T := (.cons (.asg (.tvar false 6) (.blt .repr (.cons (.var 5) .nil))) (.cons (.asg (.tvar false 7) (.call 1 (.cons (.var 5) .nil))) (.cons (.ifs (.or (.not (.blt (.isi .bool) (.cons (.var 7) .nil))) (.or (.cmp .ne (.var 7) (.call 6 (.cons (.var 5) .nil))) (.cmp .ne (.blt .repr (.cons (.var 5) .nil)) (.var 6)))) (.cons (.ret (.bl false)) .nil) .nil) .nil)))
theorem tail_ok (n : Nat) (e0 e1 e2 e3 e4 : Option SV) (d : D) (M : Mem) (t : Thing d) : (den (call P (n + 2)) tail).ex [e0, e1, e2, e3, e4, some (.val d), none, none] M =
    .ok .next [e0, e1, e2, e3, e4, some (.val d), some (.val (.str (D.toP d).shown)), some (.val (.bl (isSheet d)))] M := by
  unfold tail
  refine (seq_next (asg_var (repr_ev (i := 5) rfl t) rfl (by simp))).trans ?_
  refine (seq_next (asg_var (call_ev (i := 5) (d := d) rfl (sheet_ok n d M t.1)) rfl (by simp))).trans ?_
  refine (seq_next (ifs_f (or_ff ?_ (or_ff (ne_ev (x := isSheet d) (y := true) (var_ev rfl) (call_ev (i := 5) (d := d) rfl (is_ok n d M t.1))) (nes_ev (repr_ev (i := 5) (d := d) rfl t) (var_ev rfl)))) rfl)).trans rfl
  simp [den, Den.bad, notE, tst, bltE, consE, nilE, varE, Res.bind, vws, vw, bltO, isiB, tyO, optE, vwK, Res.ofO, truth]
theorem sh_thing {a b : Int} {ns : List Int} (h : Sh a b ns) : Thing (shD a b ns) ∧ isSheet (shD a b ns) = true := by
  obtain ⟨A0, A1⟩ := area h.a1 h.b1
  have hlen := h.len
  have hab : Comp (.tup [.int a, .int b]) := (item_tup (l := [a, b]) (by intro x hx; have := h.a1; have := h.b1; simp at hx; omega) (by simp)).comp
  refine ⟨thing2 hab (Comp.list (ints_items h.num) (by simp; omega)).1, ?_⟩
  have h1 := h.a1; have h2 := h.b1
  have e : ((ns.map D.int).length : Int) = (a + 1) * (b + 1) := by simp [hlen]
  simp only [isSheet, shD, numIn, Bool.and_eq_true, decide_eq_true_eq, List.all_eq_true]
  refine ⟨⟨⟨h1, h2⟩, e⟩, fun x hx => ?_⟩
  obtain ⟨i, hi, rfl⟩ := List.mem_map.mp hx
  obtain ⟨q1, q2⟩ := h.num i hi
  simp only [numIn, Bool.and_eq_true, decide_eq_true_eq]
  exact ⟨q1, q2⟩
abbrev lenv (s : D) (way : Int) (sh : D) (v4 v5 : Option SV) : Env := [some (.val s), some (.val (.ref 1)), some (.val (.int way)), some (.val sh), v4, v5, none, none]
theorem body_ok (n : Nat) (s : D) (way a b : Int) (ns : List Int) (k : D) (M : Mem) (c : Int) (hM : Dk M c) (hc : c < 2 ^ 47) (h : Sh a b ns) (hw : 0 ≤ way) :
    ∃ (e5 e6 e7 : Option SV) (M' : Mem) (c' : Int), Dk M' c' ∧ c' ≤ c + 4 ∧ (den (call P (n + 2)) law_b0).ex (lenv s way (shD a b ns) (some (.val k)) none) M = .ok .next [some (.val s), some (.val (.ref 1)), some (.val (.int way)), some (.val (shD a b ns)), some (.val k), e5, e6, e7] M' := by
  obtain ⟨st, -⟩ := sh_thing h
  have s0 : (den (call P (n + 2)) (.asg (.tvar false 5) (.var 3))).ex (lenv s way (shD a b ns) (some (.val k)) none) M = .ok .next (lenv s way (shD a b ns) (some (.val k)) (some (.val (shD a b ns)))) M := asg_var (var_ev rfl) rfl (by simp)
  by_cases hz : way = 0
  · subst hz
    have s1 : (den (call P (n + 2)) (.ifs (.cmp .gt (.var 2) (.int 0)) (.cons (.asg (.tvar false 5) (.call 7 (.cons (.var 1) (.cons (.var 3) .nil)))) .nil) .nil)).ex (lenv s 0 (shD a b ns) (some (.val k)) (some (.val (shD a b ns)))) M = .ok .next (lenv s 0 (shD a b ns) (some (.val k)) (some (.val (shD a b ns)))) M := by
      refine ifs_f (env1 := _) (M1 := M) ?_ rfl
      simp [den, Den.bad, cmpE, bin2, varE, pureE, Res.bind, vw, cmpO, optE]
    refine ⟨some (.val (shD a b ns)), some (.val (.str (D.toP (shD a b ns)).shown)), some (.val (.bl (isSheet (shD a b ns)))), M, c, hM, by omega, ?_⟩
    unfold law_b0
    exact (seq_next s0).trans ((seq_next s1).trans (tail_ok n _ _ _ _ _ _ M st))
  · have hpos : 0 < way := by omega
    obtain ⟨d, M1, c1, td, d1, l1, e1⟩ := bent_ok (call P (n + 1)) (draw_ok n) a b ns M c hM (by omega) h
    have e1 : call P (n + 2) 7 [.val (.ref 1), .val (shD a b ns)] M = .ok (.val d) [] M1 := e1
    have s1 : (den (call P (n + 2)) (.ifs (.cmp .gt (.var 2) (.int 0)) (.cons (.asg (.tvar false 5) (.call 7 (.cons (.var 1) (.cons (.var 3) .nil)))) .nil) .nil)).ex (lenv s way (shD a b ns) (some (.val k)) (some (.val (shD a b ns)))) M = .ok .next (lenv s way (shD a b ns) (some (.val k)) (some (.val d))) M1 := by
      refine ifs_t (env1 := lenv s way (shD a b ns) (some (.val k)) (some (.val (shD a b ns)))) (M1 := M) ?_ ((seq_next (asg_var (d := d) (M1 := M1) (env1 := lenv s way (shD a b ns) (some (.val k)) (some (.val (shD a b ns)))) ?_ rfl (by simp))).trans rfl)
      · simp [den, Den.bad, cmpE, bin2, varE, pureE, Res.bind, vw, cmpO, optE, hpos]
      · simp [den, Den.bad, callE, consE, nilE, varE, Res.bind, toArgs, R.arg, e1]
    refine ⟨some (.val d), some (.val (.str (D.toP d).shown)), some (.val (.bl (isSheet d))), M1, c1, d1, l1, ?_⟩
    unfold law_b0
    exact (seq_next s0).trans ((seq_next s1).trans (tail_ok n _ _ _ _ _ _ M1 td))
theorem loop_ok (n : Nat) (s : D) (way a b : Int) (ns : List Int) (M : Mem) (c : Int) (hM : Dk M c) (hc : c < 2 ^ 46) (h : Sh a b ns) (hw : 0 ≤ way) :
    ∃ M' : Mem, (den (call P (n + 2)) law_f0).ex (lenv s way (shD a b ns) none none) M = .ok .next (lenv s way (shD a b ns) none none) M' := by
  obtain ⟨env', M', e, h1, -⟩ := goFor_inv (wip := [4, 5, 6, 7]) (tk := (den (call P (n + 2)) (.tvar false 4)).tk) (b := (den (call P (n + 2)) law_b0).ex) (fun k env M => env = lenv s way (shD a b ns) none none ∧ ∃ c', Dk M c' ∧ c' ≤ c + 4 * k)
    (rangeD 0 4) 0 _ M ⟨rfl, c, hM, by omega⟩ (fun i x env M1 hx ⟨h1, c1, h2, h3⟩ => by
      subst h1
      have hi : i < (rangeD 0 4).length := (List.getElem?_eq_some_iff.mp hx).1
      simp only [rangeD, List.length_map, List.length_range] at hi
      obtain ⟨e5, e6, e7, M2, c2, p1, p2, p3⟩ := body_ok n s way a b ns x M1 c1 h2 (by omega) h hw
      refine ⟨lenv s way (shD a b ns) (some (.val x)) none, M1, _, M2, ?_, p3, ?_, c2, p1, by omega⟩
      · simp [den, Den.bad, asgV, isLck, R.toD]
      · simp [wipeE])
  subst h1
  refine ⟨M', ?_⟩
  unfold law_f0
  exact for_ex (l := rangeD 0 4) (lk := none) (env1 := lenv s way (shD a b ns) none none) (M1 := M) (by simp [den, Den.bad, rngE, consE, nilE, pureE, Res.bind]) rfl e
theorem law_run (n : Nat) (ns : List Int) (hl : ns.length ≤ 63) : ∃ M', runDef (call P (n + 2)) d_law [.val (.fl (ns.map .int))] [] = .ok (.val (.bl true)) [] M' := by
  have hD : DrawSp (call P (n + 2)) := draw_ok (n + 1)
  have k0 : Dk (decks (ns.map fun i => if i < 0 then -i else i) 0) 0 := ⟨⟨_, rfl, fun x hx => by
    obtain ⟨i, _, rfl⟩ := List.mem_map.mp hx
    split <;> omega, by simpa using hl⟩, by omega⟩
  obtain ⟨way, M1, p1, q1, d1, e1⟩ := k0.draw hD (m := 4) (by omega) (by decide) (by decide)
  obtain ⟨five, M2, p2, q2, d2, e2⟩ := d1.draw hD (m := 5) (by omega) (by decide) (by decide)
  obtain ⟨a, b, zs, M3, c3, hs, d3, l3, e3⟩ := sheet_fn n (if five = 0 then 8 else 3) M2 _ d2 (by omega) (by split <;> omega)
  obtain ⟨M4, e4⟩ := loop_ok n (.fl (ns.map .int)) way a b zs M3 c3 d3 (by omega) hs p1
  obtain ⟨t1, t2⟩ := sh_thing hs
  have s0 : (den (call P (n + 2)) (.asg (.tvar false 1) (.alc (.call 2 (.cons (.var 0) .nil))))).ex [some (.val (.fl (ns.map .int))), none, none, none, none, none, none, none] [] = .ok .next [some (.val (.fl (ns.map .int))), some (.val (.ref 1)), none, none, none, none, none, none] (decks (ns.map fun i => if i < 0 then -i else i) 0) := by
    have hd : call P (n + 2) 2 [.val (.fl (ns.map .int))] [] = _ := deck_ok (n + 1) ns hl
    simp [den, Den.bad, asgE, asgV, isLck, alcE, callE, consE, nilE, varE, Res.bind, toArgs, R.arg, hd, R.toD, decks]
  have s1 : (den (call P (n + 2)) (.asg (.tvar false 2) (.call 3 (.cons (.var 1) (.cons (.int 4) .nil))))).ex [some (.val (.fl (ns.map .int))), some (.val (.ref 1)), none, none, none, none, none, none] (decks (ns.map fun i => if i < 0 then -i else i) 0) = .ok .next [some (.val (.fl (ns.map .int))), some (.val (.ref 1)), some (.val (.int way)), none, none, none, none, none] M1 := by
    simp [den, Den.bad, asgE, asgV, isLck, callE, consE, nilE, varE, pureE, Res.bind, toArgs, R.arg, e1, R.toD]
  have s2 : (den (call P (n + 2)) (.asg (.tvar false 3) (.call 4 (.cons (.var 1) (.cons (.sub (.lst (.cons (.int 3) (.cons (.int 8) .nil))) (.blt .int (.cons (.cmp .eq (.call 3 (.cons (.var 1) (.cons (.int 5) .nil))) (.int 0)) .nil))) .nil))))).ex [some (.val (.fl (ns.map .int))), some (.val (.ref 1)), some (.val (.int way)), none, none, none, none, none] M1 = .ok .next (lenv (.fl (ns.map .int)) way (shD a b zs) none none) M3 := by
    by_cases hf : five = 0
    · subst hf
      simp [den, seqS, asgE, tkSub, asgD, subE, bin2, varE, pureE, vw, place, getOb, setOb, setO, subO, ixN, L2.ixN, Res.bind, R.toD, toDs, optE, binE, binO, addO, T.len, asgV, isLck, ifsS, tst, cmpE, cmpO, bltE, consE, nilE, vws, bltO, lenB, vwK, Res.ofO, truth, un1, negO, mulO, intO, binI, retE, expE, andE, orE, notE, ifeE, chnE, tupE, lstE, alcE, slcE, optR, isiB, tyO, callE, toArgs, R.arg, tkT, tksC, absB, intB, tupleB, listB, allB, strB, iterE, Vw.iter, R.isRef, lkOf, rngE, forS, wasOwn, lockS, unlock, unlockR, clE, inBlk, metE, metK, Vw.kd, Ob.kd, mtOk, Mth.mode, chgD, Den.bad, e2, szl, lineOk, Vw.cmpD, eqO, D.eqp, D.pure, D.pureN]
      simp at e3
      simp [e3, den, seqS, asgE, tkSub, asgD, subE, bin2, varE, pureE, vw, place, getOb, setOb, setO, subO, ixN, L2.ixN, Res.bind, R.toD, toDs, optE, binE, binO, addO, T.len, asgV, isLck, ifsS, tst, cmpE, cmpO, bltE, consE, nilE, vws, bltO, lenB, vwK, Res.ofO, truth, un1, negO, mulO, intO, binI, retE, expE, andE, orE, notE, ifeE, chnE, tupE, lstE, alcE, slcE, optR, isiB, tyO, callE, toArgs, R.arg, tkT, tksC, absB, intB, tupleB, listB, allB, strB, iterE, Vw.iter, R.isRef, lkOf, rngE, forS, wasOwn, lockS, unlock, unlockR, clE, inBlk, metE, metK, Vw.kd, Ob.kd, mtOk, Mth.mode, chgD, Den.bad]
    · have hf' : (five == 0) = false := by simpa using hf
      simp [den, seqS, asgE, tkSub, asgD, subE, bin2, varE, pureE, vw, place, getOb, setOb, setO, subO, ixN, L2.ixN, Res.bind, R.toD, toDs, optE, binE, binO, addO, T.len, asgV, isLck, ifsS, tst, cmpE, cmpO, bltE, consE, nilE, vws, bltO, lenB, vwK, Res.ofO, truth, un1, negO, mulO, intO, binI, retE, expE, andE, orE, notE, ifeE, chnE, tupE, lstE, alcE, slcE, optR, isiB, tyO, callE, toArgs, R.arg, tkT, tksC, absB, intB, tupleB, listB, allB, strB, iterE, Vw.iter, R.isRef, lkOf, rngE, forS, wasOwn, lockS, unlock, unlockR, clE, inBlk, metE, metK, Vw.kd, Ob.kd, mtOk, Mth.mode, chgD, Den.bad, e2, szl, lineOk, Vw.cmpD, eqO, D.eqp, D.pure, D.pureN, hf']
      simp [hf] at e3
      simp [e3, den, seqS, asgE, tkSub, asgD, subE, bin2, varE, pureE, vw, place, getOb, setOb, setO, subO, ixN, L2.ixN, Res.bind, R.toD, toDs, optE, binE, binO, addO, T.len, asgV, isLck, ifsS, tst, cmpE, cmpO, bltE, consE, nilE, vws, bltO, lenB, vwK, Res.ofO, truth, un1, negO, mulO, intO, binI, retE, expE, andE, orE, notE, ifeE, chnE, tupE, lstE, alcE, slcE, optR, isiB, tyO, callE, toArgs, R.arg, tkT, tksC, absB, intB, tupleB, listB, allB, strB, iterE, Vw.iter, R.isRef, lkOf, rngE, forS, wasOwn, lockS, unlock, unlockR, clE, inBlk, metE, metK, Vw.kd, Ob.kd, mtOk, Mth.mode, chgD, Den.bad]
  refine ⟨M4, run_ret (env1 := lenv (.fl (ns.map .int)) way (shD a b zs) none none) rfl ?_⟩
  show (den (call P (n + 2)) b_law).ex [some (.val (.fl (ns.map .int))), none, none, none, none, none, none, none] [] = _
  unfold b_law
  refine (seq_next s0).trans ((seq_next s1).trans ((seq_next s2).trans ((seq_next e4).trans (seq_ret ?_))))
  have hc := call_ev (G := call P (n + 2)) (env := lenv (.fl (ns.map .int)) way (shD a b zs) none none) (M := M4) (i := 3) (f := 1) (d := shD a b zs) rfl (sheet_ok n _ M4 t1.1)
  rw [t2] at hc
  show (retE (bin2 _ (den (call P (n + 2)) (.call 1 (.cons (.var 3) .nil))).ev _)) _ _ = _
  unfold retE bin2
  rw [hc]
  simp [Res.bind, den, Den.bad, pureE, vw, cmpO, isO, optE]
end Qk65

namespace Qk65
open Iv
theorem law_true (ns : List Int) (h : ns.length ≤ 63) : ∃ M', runDef (call (fs.map (·.df)) 20) F_law.df [.val (.fl (ns.map .int))] [] = .ok (.val (.bl true)) [] M' := law_run 18 ns h
end Qk65
namespace Qk65
open PySem PySem.Spec PyProof.Rows L2 Iv
theorem sc_is_number : FnScope F_is_number.N F_is_number.ps F_is_number.scope := ⟨rfl, rfl, rfl, by decide +kernel, rfl, by decide +kernel, by decide +kernel⟩
theorem ck_is_number : FdOk fs cs false F_is_number := ⟨sc_is_number, by decide +kernel, rfl, rfl⟩
theorem bi_is_number : BindP F_is_number := fun _ _ _ _ _ _ us hl => match us, hl with | [_], _ => rfl
theorem sc_is_sheet : FnScope F_is_sheet.N F_is_sheet.ps F_is_sheet.scope := ⟨rfl, rfl, rfl, by decide +kernel, rfl, by decide +kernel, by decide +kernel⟩
theorem ck_is_sheet : FdOk fs cs false F_is_sheet := ⟨sc_is_sheet, by decide +kernel, rfl, rfl⟩
theorem bi_is_sheet : BindP F_is_sheet := fun _ _ _ _ _ _ us hl => match us, hl with | [_], _ => rfl
theorem sc_law_deck : FnScope F_law_deck.N F_law_deck.ps F_law_deck.scope := ⟨rfl, rfl, rfl, by decide +kernel, rfl, by decide +kernel, by decide +kernel⟩
theorem ck_law_deck : FdOk fs cs false F_law_deck := ⟨sc_law_deck, by decide +kernel, rfl, rfl⟩
theorem bi_law_deck : BindP F_law_deck := fun _ _ _ _ _ _ us hl => match us, hl with | [_], _ => rfl
theorem sc_law_draw : FnScope F_law_draw.N F_law_draw.ps F_law_draw.scope := ⟨rfl, rfl, rfl, by decide +kernel, rfl, by decide +kernel, by decide +kernel⟩
theorem ck_law_draw : FdOk fs cs false F_law_draw := ⟨sc_law_draw, by decide +kernel, rfl, rfl⟩
theorem bi_law_draw : BindP F_law_draw := fun _ _ _ _ _ _ us hl => match us, hl with | [_, _], _ => rfl
theorem sc_law_sheet : FnScope F_law_sheet.N F_law_sheet.ps F_law_sheet.scope := ⟨rfl, rfl, rfl, by decide +kernel, rfl, by decide +kernel, by decide +kernel⟩
theorem ck_law_sheet : FdOk fs cs false F_law_sheet := ⟨sc_law_sheet, by decide +kernel, rfl, rfl⟩
theorem bi_law_sheet : BindP F_law_sheet := fun _ _ _ _ _ _ us hl => match us, hl with | [_, _], _ => rfl
theorem sc_law_number : FnScope F_law_number.N F_law_number.ps F_law_number.scope := ⟨rfl, rfl, rfl, by decide +kernel, rfl, by decide +kernel, by decide +kernel⟩
theorem ck_law_number : FdOk fs cs false F_law_number := ⟨sc_law_number, by decide +kernel, rfl, rfl⟩
theorem bi_law_number : BindP F_law_number := fun _ _ _ _ _ _ us hl => match us, hl with | [_, _, _], _ => rfl
theorem sc_law_is : FnScope F_law_is.N F_law_is.ps F_law_is.scope := ⟨rfl, rfl, rfl, by decide +kernel, rfl, by decide +kernel, by decide +kernel⟩
theorem ck_law_is : FdOk fs cs false F_law_is := ⟨sc_law_is, by decide +kernel, rfl, rfl⟩
theorem bi_law_is : BindP F_law_is := fun _ _ _ _ _ _ us hl => match us, hl with | [_], _ => rfl
theorem sc_law_bent : FnScope F_law_bent.N F_law_bent.ps F_law_bent.scope := ⟨rfl, rfl, rfl, by decide +kernel, rfl, by decide +kernel, by decide +kernel⟩
theorem ck_law_bent : FdOk fs cs false F_law_bent := ⟨sc_law_bent, by decide +kernel, rfl, rfl⟩
theorem bi_law_bent : BindP F_law_bent := fun _ _ _ _ _ _ us hl => match us, hl with | [_, _], _ => rfl
theorem sc_law : FnScope F_law.N F_law.ps F_law.scope := ⟨rfl, rfl, rfl, by decide +kernel, rfl, by decide +kernel, by decide +kernel⟩
theorem ck_law : FdOk fs cs true F_law := ⟨sc_law, by decide +kernel, rfl, rfl⟩
theorem bi_law : BindP F_law := fun _ _ _ _ _ _ us hl => match us, hl with | [_], _ => rfl
theorem oks : ∀ g ∈ fs, FdOk fs cs false g := by
  intro g hg
  simp only [fs, List.mem_cons, List.not_mem_nil, or_false] at hg
  rcases hg with rfl | rfl | rfl | rfl | rfl | rfl | rfl | rfl
  · exact ck_is_number
  · exact ck_is_sheet
  · exact ck_law_deck
  · exact ck_law_draw
  · exact ck_law_sheet
  · exact ck_law_number
  · exact ck_law_is
  · exact ck_law_bent
theorem bis : ∀ g ∈ fs, BindP g := by
  intro g hg
  simp only [fs, List.mem_cons, List.not_mem_nil, or_false] at hg
  rcases hg with rfl | rfl | rfl | rfl | rfl | rfl | rfl | rfl
  · exact bi_is_number
  · exact bi_is_sheet
  · exact bi_law_deck
  · exact bi_law_draw
  · exact bi_law_sheet
  · exact bi_law_number
  · exact bi_law_is
  · exact bi_law_bent
def loose : List PySem.Str := (["is_number", "MOST", "MOST_SQUARES", "is_sheet", "_law_deck", "_law_draw", "_law_sheet", "_law_number", "_law_is", "_law_bent"] : List PySem.Str)
abbrev R : PySem.W.OpenRow := PySem.W.OpenLaw.row PySem.Challenge.rw_levelskins_k65_sheets_looked_at
abbrev hk : PySem.W.Hook := He.hookD 4 (hfa (fs ++ [F_law]) cs) (hfn (fs ++ [F_law]))
def ob (s : PySem.W.SharedT) : He.AlD := He.obsDG 4 (hfa (fs ++ [F_law]) cs) (hfn (fs ++ [F_law])) (HandSHeadRun.getT s)
theorem ob_eq (s : PySem.W.SharedT) : ob s = hk.obs s.abs := He.obsDG_eq (HandSHeadRun.getT_eq s)
theorem run (w : World) : HandSHeadRun.RunEq R (PySem.W.view R.prog [13]) hk ob 2000 loose w := by
  intro os
  kernel_rfl
end Qk65
open PySem PySem.W PySem.Calls PyProof.Rows
theorem PySem.Challenge.cw_levelskins_k65_sheets_looked_at_holds : PySem.Challenge.rw_levelskins_k65_sheets_looked_at.Holds := by
  w_on; o_law
  refine HandSHeadRun.head_any (r := OpenLaw.row PySem.Challenge.rw_levelskins_k65_sheets_looked_at) (q := view (OpenLaw.row PySem.Challenge.rw_levelskins_k65_sheets_looked_at).prog [13]) (H := Qk65.hk) (ob := Qk65.ob) (M := 2000) (loose := Qk65.loose) (d := HandSHeadRun.topDef (OpenLaw.row PySem.Challenge.rw_levelskins_k65_sheets_looked_at).prog 13) (kwd := []) Qk65.ob_eq
    (by kernel_rfl) (fun s => by kernel_rfl) Qk65.run (by kernel_rfl) (by kernel_rfl) (by kernel_rfl) (by rfl) (by first | assumption | decide +kernel) (by decide +kernel) ⟨rfl, rfl, rfl, rfl, rfl, by decide +kernel⟩ ?hw ?hc
  case hw => w_witness2
  case hc =>
    refine Iv.walk_top (l := PySem.Challenge.rw_levelskins_k65_sheets_looked_at) (n := 63) (k := 20) (x := "_law_script") (f := Qk65.F_law) (fs := Qk65.fs) (cs := Qk65.cs) rfl (by decide) (by kernel_rfl) ⟨rfl, by decide, by decide⟩ rfl (by kernel_rfl) Qk65.ck_law Qk65.oks ?_ Qk65.law_true
    intro w mg h Y G
    obtain ⟨K, KX, c⟩ := Y
    exact ⟨K, KX, Iv.heads_of KX G c Qk65.bis Qk65.bi_law rfl⟩

