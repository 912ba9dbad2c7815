import PyProof.Rows.All
import Wide.All
import OpenK.AllK
import Wide.FinOn
import HandS.ForMost
import HandS.Deep
import HandS.TupAny
import HandS.TupMul
import HandS.TupLe
import HandS.Wide
import HandS.IsInst
import HandS.WideBits
import HandS.TupLen
import HandS.Strs
import HandS.More
import HandS.Replace
import HandS.Iter
import HandS.Zip
import HandS.Style
import HandS.TryOnly
import KE.GoesEnum
import KE.BitLaws
import KE.IntBitsLaws
import HandS.Defaults
import HandS.Conv
import PySem.Challenge.RW_callmatch_k73_whole_dyes_add_up
import HandS.EndBits
set_option Elab.async false
set_option linter.all false
namespace Y
open PySem

abbrev D := PyData
/-- a key of a dict: ints and texts -/
abbrev Ky := List (Sum Int Str)

mutual
def beqD : D → D → Bool
  | .none, .none => true
  | .bool a, .bool b => a == b
  | .int a, .int b => decide (a = b)
  | .str a, .str b => decide (a = b)
  | .list a, .list b => beqDs a b
  | .tuple a, .tuple b => beqDs a b
  | .dict a, .dict b => beqDp a b
  | _, _ => false
def beqDp : List (D × D) → List (D × D) → Bool
  | [], [] => true
  | (a, x) :: as, (b, y) :: bs => beqD a b && beqD x y && beqDp as bs
  | _, _ => false
def beqDs : List D → List D → Bool
  | [], [] => true
  | a :: as, b :: bs => beqD a b && beqDs as bs
  | _, _ => false
end

/-- a value: a tree, a live cell, a tuple with live cells within -/
inductive U where
  | d (x : D) | ref (i : Nat) | tup (us : List U)

mutual
def beqU : U → U → Bool
  | .d a, .d b => beqD a b
  | .ref a, .ref b => decide (a = b)
  | .tup a, .tup b => beqUs a b
  | _, _ => false
def beqUs : List U → List U → Bool
  | [], [] => true
  | a :: as, b :: bs => beqU a b && beqUs as bs
  | _, _ => false
end

inductive Cell where
  | lst (ds : List D) | lstU (us : List U)
  | dct (kvs : List (Ky × D)) | dctU (kvs : List (Ky × U))
  | ins (c : Nat) (fs : List (Str × U))
  | dead

abbrev Cs := List Cell
abbrev Rho := List (Option U)

inductive R (α : Type) where
  | ok (a : α) (T : Cs)
  | exc (c : Nat) (fs : List D) (T : Cs)
  | fail
def R.bind {α β : Type} : R α → (α → Cs → R β) → R β
  | .ok a T, f => f a T
  | .exc c fs T, _ => .exc c fs T
  | .fail, _ => .fail
@[simp] theorem R.bind_ok {α β : Type} (a : α) (T : Cs) (f : α → Cs → R β) : (R.ok a T).bind f = f a T := rfl
@[simp] theorem R.bind_exc {α β : Type} (c : Nat) (fs : List D) (T : Cs) (f : α → Cs → R β) : (R.exc c fs T).bind f = .exc c fs T := rfl
@[simp] theorem R.bind_fail {α β : Type} (f : α → Cs → R β) : (R.fail : R α).bind f = .fail := rfl
def R.ofO {α : Type} (T : Cs) : Option α → R α
  | some a => .ok a T
  | none => .fail
@[simp] theorem ofO_some {α : Type} (T : Cs) (a : α) : R.ofO T (some a) = .ok a T := rfl
@[simp] theorem ofO_none {α : Type} (T : Cs) : R.ofO T (none : Option α) = .fail := rfl

/-- a cell by its number: the outer ones first, then one's own -/
def getC (O T : Cs) (i : Nat) : Option Cell := if i < O.length then O[i]? else T[i - O.length]?

def allD : List U → Option (List D)
  | [] => some []
  | .d x :: r => (allD r).map (x :: ·)
  | _ :: _ => none
def mkT (us : List U) : U := match allD us with
  | some ds => .d (.tuple ds)
  | none => .tup us
def cellOf (us : List U) : Cell := match allD us with
  | some ds => .lst ds
  | none => .lstU us
/-- a new list: a live cell, or a tree -/
def mkL (O : Cs) (live : Bool) (us : List U) (T : Cs) : R U :=
  if live then .ok (.ref (O.length + T.length)) (T ++ [cellOf us])
  else match allD us with
    | some ds => .ok (.d (.list ds)) T
    | none => .fail

/-- what a list holds, a tuple holds -/
def seqL (O T : Cs) : U → Option (List U)
  | .d (.list ds) => some (ds.map .d)
  | .ref i => match getC O T i with
    | some (.lst ds) => some (ds.map .d)
    | some (.lstU us) => some us
    | _ => none
  | _ => none
def seqT : U → Option (List U)
  | .d (.tuple ds) => some (ds.map .d)
  | .tup us => some us
  | _ => none
def seqA (O T : Cs) (u : U) : Option (List U) := match seqL O T u with
  | some us => some us
  | none => seqT u

mutual
/-- the tree of a value, lists read where they stand by f -/
def tdU (f : Nat → Option D) : U → Option D
  | .d x => some x
  | .tup us => (tdUs f us).map .tuple
  | .ref i => f i
def tdUs (f : Nat → Option D) : List U → Option (List D)
  | [] => some []
  | u :: us => match tdU f u with
    | some x => (tdUs f us).map (x :: ·)
    | none => none
end
def tdR (O T : Cs) : Nat → Nat → Option D
  | 0, _ => none
  | n + 1, i => match getC O T i with
    | some (.lst ds) => some (.list ds)
    | some (.lstU us) => (tdUs (tdR O T n) us).map .list
    | _ => none
def toD (O T : Cs) (n : Nat) (u : U) : Option D := tdU (tdR O T n) u
def toDs (O T : Cs) (n : Nat) (us : List U) : Option (List D) := tdUs (tdR O T n) us
theorem toD_tup (O T : Cs) (n : Nat) (us : List U) : toD O T n (.tup us) = (toDs O T n us).map .tuple := rfl
theorem toD_ref0 (O T : Cs) (i : Nat) : toD O T 0 (.ref i) = none := rfl
theorem toD_refS (O T : Cs) (n i : Nat) : toD O T (n + 1) (.ref i) = match getC O T i with
    | some (.lst ds) => some (.list ds)
    | some (.lstU us) => (toDs O T n us).map .list
    | _ => none := rfl
theorem toDs_nil (O T : Cs) (n : Nat) : toDs O T n [] = some [] := rfl
theorem toDs_cons (O T : Cs) (n : Nat) (u : U) (us : List U) : toDs O T n (u :: us) = match toD O T n u with
    | some x => (toDs O T n us).map (x :: ·)
    | none => none := rfl

@[simp] theorem toD_d (O T : Cs) (n : Nat) (x : D) : toD O T n (.d x) = some x := rfl
inductive Op where | add | sub | mul | fdiv | mod | pow | shl | shr | band | bor | bxor
  deriving DecidableEq
inductive COp where | eq | ne | lt | le | gt | ge | is | isnot | isin | notin
  deriving DecidableEq
inductive BI where | len | list | tuple | sum | int | str | abs | max2 | min2 | max1 | min1 | all | any | isint | isbool | islist | istuple | isdict | isstr | dict | sorted | stp (lo : Option Int) (k : Int)
  deriving DecidableEq
inductive MT where | append | extend | pop | popAt | insert | reverse | clear | get1 | get2 | setdefault | index | join | split | strip | sindex
  deriving DecidableEq

@[irreducible] def mulOk (i j : Int) : Bool := (decide (-18446744073709551616 < i) && decide (i < 18446744073709551616)) || (decide (-18446744073709551616 < j) && decide (j < 18446744073709551616)) || decide (Builtin.Int.intBits i + Builtin.Int.intBits j ≤ 134217728)
def binI : Op → Int → Int → Option Int
  | .add, i, j => some (i + j)
  | .sub, i, j => some (i - j)
  | .mul, i, j => if mulOk i j then some (i * j) else none
  | .fdiv, i, j => if 0 < j ∧ j < 1000000000000000000000000000000000000000000000000000000000000 then some (i / j) else none
  | .mod, i, j => if 0 < j then some (i % j) else none
  | .pow, i, j => if 0 ≤ j ∧ j ≤ 1000 ∧ -18446744073709551616 < i ∧ i < 18446744073709551616 then some (i ^ j.toNat) else none
  | .shl, i, j => if 0 ≤ j ∧ j ≤ 1000 ∧ -18446744073709551616 < i ∧ i < 18446744073709551616 then some (i * 2 ^ j.toNat) else none
  | .shr, i, j => if 0 ≤ j then some (i / 2 ^ j.toNat) else none
  | .band, i, j => some (Builtin.bitAnd i j)
  | .bor, i, j => some (Builtin.bitOr i j)
  | .bxor, i, j => some (Builtin.bitXor i j)
def sizeOk (n : Nat) : Bool := decide (n ≤ 1000000)
def repS (a : Str) (n : Nat) : Str := if n = 1 then a else ⟨(List.replicate n a.cps).foldl (· ++ ·) #[]⟩
/-- a op b -/
def binU (O : Cs) (live : Bool) (o : Op) (x y : U) (T : Cs) : R U :=
  match o, x, y with
  | o, .d (.int i), .d (.int j) => match binI o i j with
    | some k => .ok (.d (.int k)) T
    | none => .fail
  | .add, .d (.str a), .d (.str b) => if sizeOk (a.length + b.length) then .ok (.d (.str (a ++ b))) T else .fail
  | .add, x, y => match seqL O T x, seqL O T y with
    | some us, some ws => if sizeOk (us.length + ws.length) then mkL O live (us ++ ws) T else .fail
    | none, none => match seqT x, seqT y with
      | some us, some ws => if sizeOk (us.length + ws.length) then .ok (mkT (us ++ ws)) T else .fail
      | _, _ => .fail
    | _, _ => .fail
  | .mul, .d (.str a), .d (.int k) => if decide (0 ≤ k) && decide (k ≤ 1000) && decide (a.length ≤ 1000) && decide (1 ≤ a.length) then .ok (.d (.str (repS a k.toNat))) T else .fail
  | .mul, x, .d (.int k) => match seqL O T x with
    | some us => if decide (0 ≤ k) && decide (k ≤ 1000000) && sizeOk (us.length * k.toNat) then mkL O live (List.replicate k.toNat us).flatten T else .fail
    | none => match seqT x with
      | some us => if !us.isEmpty && decide (1 ≤ k) && decide (k ≤ 1000) && decide (us.length ≤ 1000) then .ok (mkT (List.replicate k.toNat us).flatten) T else .fail
      | none => .fail
  | _, _, _ => .fail
def isNone : U → Bool
  | .d .none => true
  | _ => false
def ltU : U → U → Option Bool
  | .d (.int i), .d (.int j) => some (decide (i < j))
  | _, _ => none
/-- keys of dicts -/
def keyOf1 : D → Option (Sum Int Str)
  | .int i => some (.inl i)
  | .str s => some (.inr s)
  | _ => none
def keysOf : List D → Option Ky
  | [] => some []
  | x :: r => match keyOf1 x, keysOf r with
    | some k, some ks => some (k :: ks)
    | _, _ => none
def keyU : U → Option Ky
  | .d (.tuple ds) => keysOf ds
  | _ => none
def lookK {α : Type} (kvs : List (Ky × α)) (k : Ky) : Option α := (kvs.find? fun p => decide (p.1 = k)).map (·.2)
def putK {α : Type} (kvs : List (Ky × α)) (k : Ky) (v : α) : List (Ky × α) :=
  if kvs.any fun p => decide (p.1 = k) then kvs.map fun p => if p.1 = k then (p.1, v) else p else kvs ++ [(k, v)]
def dictOf (O T : Cs) : U → Option (List (Ky × U))
  | .ref i => match getC O T i with
    | some (.dct kvs) => some (kvs.map fun p => (p.1, .d p.2))
    | some (.dctU kvs) => some kvs
    | _ => none
  | _ => none
/-- shapes that == goes through -/
def shp (d : D) : Bool := SeqAt.shaped d
def cmpU (O : Cs) (o : COp) (x y : U) (T : Cs) : Option Bool :=
  match o with
  | .is => if isNone y then some (isNone x) else match x, y with
    | .d (.bool a), .d (.bool b) => some (decide (a = b))
    | _, _ => none
  | .isnot => if isNone y then some (!isNone x) else none
  | .eq => match toD O T 3 x, toD O T 3 y with
    | some a, some b => if shp a && shp b then some (PyData.eqv a b) else none
    | _, _ => none
  | .ne => match toD O T 3 x, toD O T 3 y with
    | some a, some b => if shp a && shp b then some (!PyData.eqv a b) else none
    | _, _ => none
  | .lt => match x, y with
    | .d (.int i), .d (.int j) => some (decide (i < j))
    | .d (.tuple [.int a, .int b]), .d (.tuple [.int c, .int e]) => some (decide (a < c ∨ a = c ∧ b < e))
    | _, _ => none
  | .le => match x, y with
    | .d (.int i), .d (.int j) => some (decide (i ≤ j))
    | _, _ => none
  | .gt => match x, y with
    | .d (.int i), .d (.int j) => some (decide (j < i))
    | _, _ => none
  | .ge => match x, y with
    | .d (.int i), .d (.int j) => some (decide (j ≤ i))
    | _, _ => none
  | .isin => isinU O x y T
  | .notin => (isinU O x y T).map (!·)
where
  isinU (O : Cs) (x y : U) (T : Cs) : Option Bool :=
    match dictOf O T y with
    | some kvs => match keyU x with
      | some k => some (lookK kvs k).isSome
      | none => none
    | none => match x, y with
      | .d (.str c), .d (.str z) => match c with
        | ⟨⟨[k]⟩⟩ => some (decide (k ∈ z.cps.toList))
        | _ => none
      | .d a, .d (.tuple ds) => if flat a && ds.all flat then some (ds.any fun z => PyData.eqv z a) else none
      | x, y => match toD O T 3 x, toD O T 3 y with
        | some a, some (.list ds) => if shp a && shp (.list ds) then some (ds.any fun z => PyData.eqv z a) else none
        | _, _ => none
  flat : D → Bool
    | .int _ | .str _ | .none | .bool _ => true
    | _ => false

/-- x[i] -/
def ixU (O : Cs) (x y : U) (T : Cs) : Option U :=
  match y with
  | .d (.int i) => match x with
    | .d (.list ds) => (L2.atI ds i).map .d
    | .d (.tuple ds) => (L2.atI ds i).map .d
    | .d (.str s) => if sizeOk s.length then (L2.atI s.cps.toList i).map fun c => .d (.str ⟨#[c]⟩) else none
    | .tup us => L2.atI us i
    | .ref r => match getC O T r with
      | some (.lst ds) => (L2.atI ds i).map .d
      | some (.lstU us) => L2.atI us i
      | _ => none
    | _ => none
  | y => match dictOf O T x, keyU y with
    | some kvs, some k => lookK kvs k
    | _, _ => none
def cut {α : Type} (xs : List α) (lo hi : Option Int) : List α := (xs.drop (HT.sIx xs.length 0 lo)).take (HT.sIx xs.length xs.length hi - HT.sIx xs.length 0 lo)
/-- x[l:h] -/
def slcU (O : Cs) (live : Bool) (x : U) (l h : Option Int) (T : Cs) : R U := match seqL O T x with
  | some us => mkL O live (cut us l h) T
  | none => match seqT x with
    | some us => .ok (mkT (cut us l h)) T
    | none => match x with
      | .d (.str s) => if sizeOk s.length then .ok (.d (.str ⟨(cut s.cps.toList l h).toArray⟩)) T else .fail
      | _ => .fail
def setC (O T : Cs) (i : Nat) (c : Cell) : R U := if O.length ≤ i ∧ i < O.length + T.length then .ok (.d .none) (T.set (i - O.length) c) else .fail
/-- o[i] = v -/
def setiU (O : Cs) (o i v : U) (T : Cs) : R U :=
  match o with
  | .ref r => match getC O T r with
    | some (.lst ds) => match i with
      | .d (.int k) => match L2.ixN ds.length k with
        | some j => match v with
          | .d x => setC O T r (.lst (ds.set j x))
          | v => setC O T r (.lstU ((ds.map .d).set j v))
        | none => .fail
      | _ => .fail
    | some (.lstU us) => match i with
      | .d (.int k) => match L2.ixN us.length k with
        | some j => setC O T r (.lstU (us.set j v))
        | none => .fail
      | _ => .fail
    | some (.dct kvs) => match keyU i with
      | some k => if sizeOk kvs.length then match v with
        | .d x => setC O T r (.dct (putK kvs k x))
        | v => if kvs.isEmpty then setC O T r (.dctU [(k, v)]) else .fail
        else .fail
      | none => .fail
    | some (.dctU kvs) => match keyU i with
      | some k => if sizeOk kvs.length then setC O T r (.dctU (putK kvs k v)) else .fail
      | none => .fail
    | _ => .fail
  | _ => .fail
def fldU (O : Cs) (o : U) (f : Str) (T : Cs) : Option U :=
  match o with
  | .ref r => match getC O T r with
    | some (.ins _ fs) => fs.lookup f
    | _ => none
  | _ => none
def putFU (f : Str) (v : U) : List (Str × U) → List (Str × U)
  | [] => [(f, v)]
  | (g, x) :: r => if g = f then (g, v) :: r else (g, x) :: putFU f v r
def setfU (O : Cs) (o : U) (f : Str) (v : U) (T : Cs) : R U :=
  match o with
  | .ref r => match getC O T r with
    | some (.ins c fs) => if fs.length < 100 then setC O T r (.ins c (putFU f v fs)) else .fail
    | _ => .fail
  | _ => .fail
def intsOf : List D → Option (List Int)
  | [] => some []
  | .int i :: r => (intsOf r).map (i :: ·)
  | _ :: _ => none
def boolsOf : List D → Option (List Bool)
  | [] => some []
  | .bool i :: r => (boolsOf r).map (i :: ·)
  | _ :: _ => none
def strsOf : List D → Option (List Str)
  | [] => some []
  | .str i :: r => (strsOf r).map (i :: ·)
  | _ :: _ => none
def listD (O T : Cs) (u : U) : Option (List D) := match u with
  | .d (.list ds) => some ds
  | .ref i => match getC O T i with
    | some (.lst ds) => some ds
    | _ => none
  | _ => none
/-- built-in functions -/
def one (us : List U) (f : U → R U) : R U := match us with
  | [x] => f x
  | _ => .fail
def two (us : List U) (f : U → U → R U) : R U := match us with
  | [x, y] => f x y
  | _ => .fail
@[simp] theorem one_one (x : U) (f : U → R U) : one [x] f = f x := rfl
@[simp] theorem two_two (x y : U) (f : U → U → R U) : two [x, y] f = f x y := rfl
def lenB (O T : Cs) (x : U) : R U := match x with
  | .d (.str s) => if sizeOk s.length then .ok (.d (.int s.length)) T else .fail
  | x => match seqA O T x with
    | some us => .ok (.d (.int us.length)) T
    | none => match dictOf O T x with
      | some kvs => .ok (.d (.int kvs.length)) T
      | none => .fail
def listB (O : Cs) (l : Bool) (T : Cs) (x : U) : R U := match seqA O T x with
  | some us => mkL O l us T
  | none => .fail
def tupleB (O T : Cs) (x : U) : R U := match seqL O T x with
  | some us => .ok (mkT us) T
  | none => match seqT x with
    | some _ => .ok x T
    | none => .fail
def sumB (O T : Cs) (x : U) : R U := match (listD O T x).bind intsOf with
  | some ns => .ok (.d (.int ns.sum)) T
  | none => .fail
def allB (O T : Cs) (x : U) : R U := match (listD O T x).bind boolsOf with
  | some bs => .ok (.d (.bool (bs.all id))) T
  | none => .fail
def anyB (O T : Cs) (x : U) : R U := match (listD O T x).bind boolsOf with
  | some bs => .ok (.d (.bool (bs.any id))) T
  | none => .fail
def intB (T : Cs) (x : U) : R U := match x with
  | .d (.int i) => .ok (.d (.int i)) T
  | .d (.bool b) => .ok (.d (.int (if b then 1 else 0))) T
  | .d (.str s) => match PySem.intText? s with
    | some n => if decide (s.length ≤ 640) then .ok (.d (.int n)) T else .fail
    | none => .fail
  | _ => .fail
def strB (T : Cs) (x : U) : R U := match x with
  | .d (.int i) => if decide (-1000000000000000000000000000000000000000000000000000000000000 < i) && decide (i < 1000000000000000000000000000000000000000000000000000000000000) then .ok (.d (.str (toString i))) T else .fail
  | _ => .fail
def absB (T : Cs) (x : U) : R U := match x with
  | .d (.int i) => .ok (.d (.int (if i < 0 then -i else i))) T
  | _ => .fail
def max2B (T : Cs) (x y : U) : R U := match x, y with
  | .d (.int i), .d (.int j) => .ok (.d (.int (if j > i then j else i))) T
  | _, _ => .fail
def min2B (T : Cs) (x y : U) : R U := match x, y with
  | .d (.int i), .d (.int j) => .ok (.d (.int (if j < i then j else i))) T
  | _, _ => .fail
/-- the class of a value, by its name -/
inductive Ty where | non | bool | int | str | list | tuple | dict
  deriving DecidableEq
def tyU (O T : Cs) : U → Option Ty
  | .d .none => some .non
  | .d (.bool _) => some .bool
  | .d (.int _) => some .int
  | .d (.str _) => some .str
  | .d (.list _) => some .list
  | .d (.tuple _) => some .tuple
  | .tup _ => some .tuple
  | .ref i => match getC O T i with
    | some (.lst _) | some (.lstU _) => some .list
    | some (.dct _) | some (.dctU _) => some .dict
    | _ => none
  | _ => none
def isB (O T : Cs) (t : Ty) (x : U) : R U := match tyU O T x with
  | some a => .ok (.d (.bool (decide (a = t) || (decide (a = .bool) && decide (t = .int))))) T
  | none => .fail
/-- every k-th from lo on -/
def pickS {α : Type} (lo : Option Int) (k : Int) (us : List α) : List α :=
  (sliceRange (sliceBounds lo none (some k) us.length).1 (sliceBounds lo none (some k) us.length).2.1 (sliceBounds lo none (some k) us.length).2.2).filterMap fun i => us[i]?
def stpB (O : Cs) (live : Bool) (lo : Option Int) (k : Int) (T : Cs) (x : U) : R U := match seqL O T x with
  | some us => if decide (1 ≤ k) then mkL O live (pickS lo k us) T else .fail
  | none => .fail
def biU (O : Cs) (live : Bool) (b : BI) (us : List U) (T : Cs) : R U :=
  match b with
  | .len => one us (lenB O T)
  | .list => one us (listB O live T)
  | .tuple => one us (tupleB O T)
  | .sum => one us (sumB O T)
  | .all => one us (allB O T)
  | .any => one us (anyB O T)
  | .int => one us (intB T)
  | .str => one us (strB T)
  | .abs => one us (absB T)
  | .max2 => two us (max2B T)
  | .min2 => two us (min2B T)
  | .isint => one us (isB O T .int)
  | .isbool => one us (isB O T .bool)
  | .isstr => one us (isB O T .str)
  | .islist => one us (isB O T .list)
  | .istuple => one us (isB O T .tuple)
  | .isdict => one us (isB O T .dict)
  | .stp lo k => one us (stpB O live lo k T)
  | _ => .fail
/-- a list's methods -/
def appU (O : Cs) (r : Nat) (v : U) (T : Cs) : R U := match getC O T r with
  | some (.lst ds) => if sizeOk ds.length then match v with
    | .d x => setC O T r (.lst (ds ++ [x]))
    | v => setC O T r (.lstU (ds.map .d ++ [v]))
    else .fail
  | some (.lstU us) => if sizeOk us.length then setC O T r (.lstU (us ++ [v])) else .fail
  | _ => .fail
def mtU (O : Cs) (live : Bool) (m : MT) (o : U) (as : List U) (T : Cs) : R U :=
  match m, o, as with
  | .append, .ref r, [v] => appU O r v T
  | .extend, .ref r, [v] => match getC O T r, seqL O T v with
    | some (.lst ds), some ws => if sizeOk (ds.length + ws.length) then setC O T r (cellOf (ds.map .d ++ ws)) else .fail
    | some (.lstU us), some ws => if sizeOk (us.length + ws.length) then setC O T r (.lstU (us ++ ws)) else .fail
    | _, _ => .fail
  | .pop, .ref r, [] => match getC O T r with
    | some (.lst ds) => match ds.getLast? with
      | some x => (setC O T r (.lst ds.dropLast)).bind fun _ T => .ok (.d x) T
      | none => .fail
    | some (.lstU us) => match us.getLast? with
      | some x => (setC O T r (.lstU us.dropLast)).bind fun _ T => .ok x T
      | none => .fail
    | _ => .fail
  | .popAt, .ref r, [.d (.int i)] => match getC O T r with
    | some (.lst ds) => if decide (-1000000 ≤ i) && decide (i ≤ 1000000) then match PySem.seqIndex? i ds.length with
      | some k => match ds[k]? with
        | some x => (setC O T r (.lst (ds.eraseIdx k))).bind fun _ T => .ok (.d x) T
        | none => .fail
      | none => .fail
      else .fail
    | _ => .fail
  | .insert, .ref r, [.d (.int i), .d x] => match getC O T r with
    | some (.lst ds) => if decide (0 ≤ i) && decide (i ≤ 1000000) && sizeOk ds.length then setC O T r (.lst (ds.take i.toNat ++ [x] ++ ds.drop i.toNat)) else .fail
    | _ => .fail
  | .reverse, .ref r, [] => match getC O T r with
    | some (.lst ds) => setC O T r (.lst ds.reverse)
    | some (.lstU us) => setC O T r (.lstU us.reverse)
    | _ => .fail
  | .clear, .ref r, [] => match getC O T r with
    | some (.lst _) | some (.lstU _) => setC O T r (.lst [])
    | _ => .fail
  | .get1, o, [k] => match dictOf O T o, keyU k with
    | some kvs, some k => .ok ((lookK kvs k).getD (.d .none)) T
    | _, _ => .fail
  | .get2, o, [k, v] => match dictOf O T o, keyU k with
    | some kvs, some k => .ok ((lookK kvs k).getD v) T
    | _, _ => .fail
  | .setdefault, .ref r, [k, v] => match dictOf O T (.ref r), keyU k with
    | some kvs, some k' => match lookK kvs k' with
      | some x => .ok x T
      | none => (setiU O (.ref r) k v T).bind fun _ T => .ok v T
    | _, _ => .fail
  | .index, o, [.d x] => match x, seqT o with
    | .str z, some us => match (allD us).bind strsOf with
      | some zs => match zs.findIdx? (· == z) with
        | some j => .ok (.d (.int j)) T
        | none => .fail
      | none => .fail
    | _, _ => .fail
  | .join, .d (.str s), [x] => match (seqA O T x).bind allD with
    | some ds => match strsOf ds with
      | some zs => if sizeOk ((zs.map (·.length)).sum + zs.length * s.length) then .ok (.d (.str (Txt.join s zs))) T else .fail
      | none => .fail
    | none => .fail
  | .sindex, .d (.str s), [.d (.str z)] => match Builtin.Str.occurrences s z 0 s.length 1 with
    | i :: _ => .ok (.d (.int (i : Nat))) T
    | [] => .fail
  | .split, .d (.str s), [.d (.str z)] => if sizeOk s.length && !(z.length == 0) then mkL O live ((Txt.split s z).map fun x => .d (.str x)) T else .fail
  | _, _, _ => .fail
/-- a live list, made a tree for ever -/
def frzU (O : Cs) (x : U) (T : Cs) : R U :=
  match x with
  | .ref r => match getC O T r with
    | some (.lst ds) => (setC O T r .dead).bind fun _ T => .ok (.d (.list ds)) T
    | _ => .fail
  | x => .ok x T
end Y

set_option Elab.async false
set_option linter.all false
namespace Y
open PySem

mutual
inductive Tg where | nm (i : Nat) | tp (ts : Tgs) | lp (ts : Tgs)
inductive Tgs where | nil | cons (t : Tg) (ts : Tgs)
end
mutual
def asgT (O T : Cs) : Tg → U → Rho → Option Rho
  | .nm i, u, ρ => some (ρ.set i (some u))
  | .tp ts, u, ρ => match seqT u with
    | some us => asgTs O T ts us ρ
    | none => none
  | .lp ts, u, ρ => match seqL O T u with
    | some us => asgTs O T ts us ρ
    | none => none
def asgTs (O T : Cs) : Tgs → List U → Rho → Option Rho
  | .nil, [], ρ => some ρ
  | .cons t ts, u :: us, ρ => match asgT O T t u ρ with
    | some ρ' => asgTs O T ts us ρ'
    | none => none
  | _, _, _ => none
end

mutual
inductive CE where
  | v (i : Nat) | c (x : D) | g (k : Nat) | skip
  | bin (live : Bool) (o : Op) (a b : CE) | neg (a : CE)
  | cmp (o : COp) (a b : CE) | chain (o o' : COp) (a b e : CE)
  | and (a b : CE) | or (a b : CE) | not (a : CE) | ite (t a b : CE)
  | tup (as : CA) | lst (live : Bool) (as : CA)
  | ix (a b : CE) | slc (live : Bool) (a lo hi : CE)
  | call (live : Bool) (f : Nat) (as : CA) (ds : List D)
  | bi (live : Bool) (b : BI) (as : CA)
  | mt (live : Bool) (m : MT) (o : CE) (as : CA)
  | mcall (c f : Nat) (m : Str) (o : CE) (as : CA)
  | mk (c f : Nat) (as : CA)
  | fld (c : Nat) (o : CE) (f : Str)
  | comp (live : Bool) (elt : CE) (tg : Tg) (it : IT) (t : CE) (own : List Nat)
  | dict0
  | frz (a : CE)
inductive CA where | nil | cons (a : CE) (r : CA)
inductive IT where
  | lst (a : CE) | tup (a : CE) | rng1 (a : CE) | rng2 (a b : CE) | rng3 (a b c : CE) | enumL (a : CE) | enumT (a : CE) | revL (a : CE) | zipL (a b : CE)
  | keys (a : CE) | items (a : CE) | str (a : CE)
end

mutual
inductive CS where
  | asg (g : Tg) (e : CE) | setf (c : Nat) (o : CE) (f : Str) (e : CE) | seti (o i e : CE) | augf (c : Nat) (o : CE) (f : Str) (e : CE)
  | ex (e : CE) | ret (e : CE) | retN | brk | cnt | pass
  | ite (t : CE) (a b : CB) | for_ (g : Tg) (it : IT) (b : CB) | wh (n : Nat) (t : CE) (b : CB)
  | bad
inductive CB where | nil | cons (s : CS) (b : CB)
end

/-- what surrounds a body: calls one level down, makings (two down), constants, classes -/
structure Cn where
  call : Cs → Nat → List U → Cs → R U
  make : Cs → Nat → List U → Cs → R U
  glob : Nat → Option D

/-- the class that a built-in method is of -/
def mtTy : MT → Ty
  | .get1 | .get2 | .setdefault => .dict
  | .index => .tuple
  | .join | .split | .strip | .sindex => .str
  | _ => .list
def clsOf (O T : Cs) : U → Option Nat
  | .ref r => match getC O T r with
    | some (.ins c _) => some c
    | _ => none
  | _ => none
/-- a result becomes a tree -/
def pureRet (O T : Cs) (n : Nat) : Nat → U → Option D
  | _, .d x => some x
  | k + 1, .ref i => if n ≤ i then match getC O T i with
      | some (.lst ds) => some (.list ds)
      | _ => none
    else none
  | _, _ => none
/-- a call that leaves all as it was, and gives a tree -/
def callP (C : Cn) (O : Cs) (f : Nat) (us : List U) (T : Cs) : R U :=
  match C.call (O ++ T) f us [] with
  | .ok u T' => match u with
    | .d x => .ok (.d x) T
    | .ref i => if O.length + T.length ≤ i then match getC (O ++ T) T' i with
        | some (.lst ds) => .ok (.d (.list ds)) T
        | _ => .fail
      else .fail
    | .tup _ => .fail
  | .exc c fs _ => .exc c fs T
  | .fail => .fail

def wipeR (ρ : Rho) : List Nat → Rho
  | [] => ρ
  | v :: vs => (wipeR ρ vs).set v none

/-- the items that a for takes, and the live cell that must stay -/
structure Its where
  us : List U
  w : Option Nat
  t : Cs
def watch : U → Option Nat
  | .ref i => some i
  | _ => none
def beqDk : List (Ky × D) → List (Ky × D) → Bool
  | [], [] => true
  | (k, x) :: a, (l, y) :: b => decide (k = l) && beqD x y && beqDk a b
  | _, _ => false
def beqUk : List (Ky × U) → List (Ky × U) → Bool
  | [], [] => true
  | (k, x) :: a, (l, y) :: b => decide (k = l) && beqU x y && beqUk a b
  | _, _ => false
def beqC : Cell → Cell → Bool
  | .lst a, .lst b => beqDs a b
  | .lstU a, .lstU b => beqUs a b
  | .dct a, .dct b => beqDk a b
  | .dctU a, .dctU b => beqUk a b
  | _, _ => false
def sameW (O T T' : Cs) : Option Nat → Bool
  | none => true
  | some i => match getC O T i, getC O T' i with
    | some c, some c' => beqC c c'
    | _, _ => false

def kD : Sum Int Str → D
  | .inl i => .int i
  | .inr s => .str s
def keyD (k : Ky) : D := .tuple (k.map kD)

def rngU (lo : Int) (n : Nat) (c : Int) : List U := (List.range n).map fun i => .d (.int (lo + (i : Nat) * c))
@[irreducible] def rngOk (i j : Int) : Bool := decide (-4611686018427387904 ≤ i) && decide (i < 4611686018427387904) && decide (-4611686018427387904 ≤ j) && decide (j < 4611686018427387904)

inductive F where
  | nx (ρ : Rho) (T : Cs) | rt (u : U) (T : Cs) | bk (ρ : Rho) (T : Cs) | ct (ρ : Rho) (T : Cs)
  | exc (c : Nat) (fs : List D) (ρ : Rho) (T : Cs) | fail
def F.of (ρ : Rho) : R U → (U → Cs → F) → F
  | .ok u T, k => k u T
  | .exc c fs T, _ => .exc c fs ρ T
  | .fail, _ => .fail
@[simp] theorem F.of_ok (ρ : Rho) (u : U) (T : Cs) (k : U → Cs → F) : F.of ρ (.ok u T) k = k u T := rfl
@[simp] theorem F.of_exc (ρ : Rho) (c : Nat) (fs : List D) (T : Cs) (k : U → Cs → F) : F.of ρ (.exc c fs T) k = .exc c fs ρ T := rfl
@[simp] theorem F.of_fail (ρ : Rho) (k : U → Cs → F) : F.of ρ .fail k = .fail := rfl

/-- a test's truth -/
def asB : U → Option Bool
  | .d (.bool b) => some b
  | _ => none

def brB {α : Type} (o : Option Bool) (p q : R α) : R α := match o with
  | some true => p
  | some false => q
  | none => .fail
@[simp] theorem brB_t {α : Type} (p q : R α) : brB (some true) p q = p := rfl
@[simp] theorem brB_f {α : Type} (p q : R α) : brB (some false) p q = q := rfl
@[simp] theorem brB_d {α : Type} (c : Prop) [Decidable c] (p q : R α) : brB (some (decide c)) p q = if c then p else q := by
  by_cases h : c <;> simp [h]
@[simp] theorem brB_b {α : Type} (b : Bool) (p q : R α) : brB (some b) p q = if b = true then p else q := by cases b <;> rfl
def partU (u : U) (T : Cs) : R (Option Int) := match u with
  | .d (.int i) => .ok (some i) T
  | _ => .fail
def isSkip : CE → Bool
  | .skip => true
  | _ => false
theorem R.bind_bind {α β γ : Type} (r : R α) (f : α → Cs → R β) (g : β → Cs → R γ) : (r.bind f).bind g = r.bind fun a T => (f a T).bind g := by cases r <;> rfl
theorem brB_bind {α β : Type} (o : Option Bool) (p q : R α) (g : α → Cs → R β) : (brB o p q).bind g = brB o (p.bind g) (q.bind g) := by
  cases o with
  | none => rfl
  | some b => cases b <;> rfl
/-- a comprehension's turns: the list grows in the cell n -/
def putC (n : Nat) (oy : Option U) (T : Cs) : R Unit := match oy with
  | none => .ok () T
  | some y => match T[n]? with
    | some (.lstU acc) => if sizeOk acc.length then .ok () (T.set n (.lstU (acc ++ [y]))) else .fail
    | _ => .fail
def compC (elt : U → Cs → R (Option U)) (ok : Cs → Bool) (n : Nat) : List U → Cs → R Unit
  | [], T => if ok T then .ok () T else .fail
  | u :: us, T => if ok T then (elt u T).bind fun oy T' => (putC n oy T').bind fun _ T'' => compC elt ok n us T'' else .fail
def beqFs : List (Str × U) → List (Str × U) → Bool
  | [], [] => true
  | (k, x) :: a, (l, y) :: b => decide (k = l) && beqU x y && beqFs a b
  | _, _ => false
def beqA : Cell → Cell → Bool
  | .lst a, .lst b => beqDs a b
  | .lstU a, .lstU b => beqUs a b
  | .dct a, .dct b => beqDk a b
  | .dctU a, .dctU b => beqUk a b
  | .ins c a, .ins d b => decide (c = d) && beqFs a b
  | .dead, .dead => true
  | _, _ => false
def beqCs : Cs → Cs → Bool
  | [], [] => true
  | a :: as, b :: bs => beqA a b && beqCs as bs
  | _, _ => false
/-- what a comprehension gives -/
def compE (O : Cs) (live : Bool) (T0 T' : Cs) : R U := match T'[T0.length]? with
  | some (.lstU acc) => if live then .ok (.ref (O.length + T0.length)) (T'.set T0.length (cellOf acc))
    else match allD acc with
      | some ds => if beqCs (T'.take T0.length) T0 && decide (T'.length = T0.length + 1) then .ok (.d (.list ds)) T0 else .ok (.d (.list ds)) (T'.set T0.length .dead)
      | none => .fail
  | _ => .fail

mutual
def den (C : Cn) (O : Cs) (ρ : Rho) : CE → Cs → R U
  | .v i, T => match ρ[i]? with
    | some (some u) => .ok u T
    | _ => .fail
  | .c x, T => .ok (.d x) T
  | .g k, T => match C.glob k with
    | some x => .ok (.d x) T
    | none => .fail
  | .skip, T => .ok (.d .none) T
  | .bin live o a b, T => (den C O ρ a T).bind fun x T => (den C O ρ b T).bind fun y T => binU O live o x y T
  | .neg a, T => (den C O ρ a T).bind fun x T => match x with
    | .d (.int i) => .ok (.d (.int (-i))) T
    | _ => .fail
  | .cmp o a b, T => (den C O ρ a T).bind fun x T => (den C O ρ b T).bind fun y T => match cmpU O o x y T with
    | some k => .ok (.d (.bool k)) T
    | none => .fail
  | .chain o o' a b e, T => (den C O ρ a T).bind fun x T => (den C O ρ b T).bind fun y T => match cmpU O o x y T with
    | some true => (den C O ρ e T).bind fun z T => match cmpU O o' y z T with
      | some k => .ok (.d (.bool k)) T
      | none => .fail
    | some false => .ok (.d (.bool false)) T
    | none => .fail
  | .and a b, T => (den C O ρ a T).bind fun x T => brB (asB x) (den C O ρ b T) (.ok (.d (.bool false)) T)
  | .or a b, T => (den C O ρ a T).bind fun x T => brB (asB x) (.ok (.d (.bool true)) T) (den C O ρ b T)
  | .not a, T => (den C O ρ a T).bind fun x T => match asB x with
    | some b => .ok (.d (.bool (!b))) T
    | none => .fail
  | .ite t a b, T => (den C O ρ t T).bind fun x T => brB (asB x) (den C O ρ a T) (den C O ρ b T)
  | .tup as, T => (denA C O ρ as T).bind fun us T => if sizeOk us.length then .ok (mkT us) T else .fail
  | .lst live as, T => (denA C O ρ as T).bind fun us T => if sizeOk us.length then mkL O live us T else .fail
  | .ix a b, T => (den C O ρ a T).bind fun x T => (den C O ρ b T).bind fun y T => R.ofO T (ixU O x y T)
  | .slc live a lo hi, T => (den C O ρ a T).bind fun x T => (if isSkip lo then .ok none T else (den C O ρ lo T).bind fun l T => partU l T).bind fun l T =>
      (if isSkip hi then .ok none T else (den C O ρ hi T).bind fun h T => partU h T).bind fun h T => slcU O live x l h T
  | .call live f as ds, T => (denA C O ρ as T).bind fun us T => if live then C.call O f (us ++ ds.map .d) T else callP C O f (us ++ ds.map .d) T
  | .bi live b as, T => (denA C O ρ as T).bind fun us T => biU O live b us T
  | .mt live m o as, T => (den C O ρ o T).bind fun x T => if tyU O T x = some (mtTy m) then (denA C O ρ as T).bind fun us T => mtU O live m x us T else .fail
  | .mcall c f m o as, T => (den C O ρ o T).bind fun x T => if clsOf O T x = some c ∧ (fldU O x m T).isNone = true then (denA C O ρ as T).bind fun us T => C.call O f (x :: us) T else .fail
  | .mk c f as, T => (denA C O ρ as T).bind fun us T => (C.make O f (.ref (O.length + T.length) :: us) (T ++ [.ins c []])).bind fun v T' => if isNone v then .ok (.ref (O.length + T.length)) T' else .fail
  | .fld c o f, T => (den C O ρ o T).bind fun x T => if clsOf O T x = some c then R.ofO T (fldU O x f T) else .fail
  | .comp live elt tg it t own, T => (denI C O ρ it T).bind fun its T0 =>
      (compC (fun u T => match asgT O T tg u (wipeR ρ own) with
        | some ρ' => (den C O ρ' t T).bind fun b T => brB (asB b) ((den C O ρ' elt T).bind fun y T => .ok (some y) T) (.ok none T)
        | none => .fail) (fun T' => sameW O its.t T' its.w) T0.length its.us (T0 ++ [.lstU []])).bind fun _ T' => compE O live T0 T'
  | .dict0, T => .ok (.ref (O.length + T.length)) (T ++ [.dct []])
  | .frz a, T => (den C O ρ a T).bind fun x T => frzU O x T
def denA (C : Cn) (O : Cs) (ρ : Rho) : CA → Cs → R (List U)
  | .nil, T => .ok [] T
  | .cons a r, T => (den C O ρ a T).bind fun u T => (denA C O ρ r T).bind fun us T => .ok (u :: us) T
def denI (C : Cn) (O : Cs) (ρ : Rho) : IT → Cs → R Its
  | .lst a, T => (den C O ρ a T).bind fun x T => match seqL O T x with
    | some us => .ok ⟨us, watch x, T⟩ T
    | none => .fail
  | .tup a, T => (den C O ρ a T).bind fun x T => match seqT x with
    | some us => .ok ⟨us, none, T⟩ T
    | none => .fail
  | .rng1 a, T => (den C O ρ a T).bind fun x T => match x with
    | .d (.int j) => if rngOk 0 j then .ok ⟨rngU 0 j.toNat 1, none, T⟩ T else .fail
    | _ => .fail
  | .rng2 a b, T => (den C O ρ a T).bind fun x T => (den C O ρ b T).bind fun y T => match x, y with
    | .d (.int i), .d (.int j) => if rngOk i j then .ok ⟨rngU i (j - i).toNat 1, none, T⟩ T else .fail
    | _, _ => .fail
  | .rng3 a b c, T => (den C O ρ a T).bind fun x T => (den C O ρ b T).bind fun y T => (den C O ρ c T).bind fun z T => match x, y, z with
    | .d (.int i), .d (.int j), .d (.int (-1)) => if rngOk i j then .ok ⟨rngU i (i - j).toNat (-1), none, T⟩ T else .fail
    | _, _, _ => .fail
  | .enumL a, T => (den C O ρ a T).bind fun x T => match seqL O T x with
    | some us => .ok ⟨us.zipIdx.map fun p => mkT [.d (.int (p.2 : Nat)), p.1], watch x, T⟩ T
    | none => .fail
  | .enumT a, T => (den C O ρ a T).bind fun x T => match seqT x with
    | some us => .ok ⟨us.zipIdx.map fun p => mkT [.d (.int (p.2 : Nat)), p.1], none, T⟩ T
    | none => .fail
  | .revL a, T => (den C O ρ a T).bind fun x T => match seqL O T x with
    | some us => .ok ⟨us.reverse, watch x, T⟩ T
    | none => .fail
  | .zipL a b, T => (den C O ρ a T).bind fun x T => (den C O ρ b T).bind fun y T => match seqL O T x, seqL O T y, watch x, watch y with
    | some us, some ws, none, none => .ok ⟨(us.zip ws).map fun p => mkT [p.1, p.2], none, T⟩ T
    | _, _, _, _ => match seqT x, seqT y with
      | some us, some ws => .ok ⟨(us.zip ws).map fun p => mkT [p.1, p.2], none, T⟩ T
      | _, _ => .fail
  | .keys a, T => (den C O ρ a T).bind fun x T => match x with
    | .ref i => match dictOf O T (.ref i) with
      | some kvs => (setC O T i .dead).bind fun _ T' => .ok ⟨kvs.map fun p => .d (keyD p.1), none, T'⟩ T'
      | none => .fail
    | _ => .fail
  | .items a, T => (den C O ρ a T).bind fun x T => match dictOf O T x with
    | some kvs => .ok ⟨kvs.map fun p => mkT [.d (keyD p.1), p.2], watch x, T⟩ T
    | none => .fail
  | .str a, T => (den C O ρ a T).bind fun x T => match x with
    | .d (.str s) => .ok ⟨s.cps.toList.map fun c => .d (.str ⟨#[c]⟩), none, T⟩ T
    | _ => .fail
end

/-- a for's turns -/
def loopF (body : U → Rho → Cs → F) (ok : Cs → Bool) : List U → Rho → Cs → F
  | [], ρ, T => if ok T then .nx ρ T else .fail
  | u :: us, ρ, T => if ok T then match body u ρ T with
      | .nx ρ' T' | .ct ρ' T' => loopF body ok us ρ' T'
      | .bk ρ' T' => .nx ρ' T'
      | r => r
    else .fail
def loopW (test : Rho → Cs → R U) (body : Rho → Cs → F) : Nat → Rho → Cs → F
  | 0, _, _ => .fail
  | n + 1, ρ, T => F.of ρ (test ρ T) fun b T => match asB b with
    | some false => .nx ρ T
    | some true => match body ρ T with
      | .nx ρ' T' | .ct ρ' T' => loopW test body n ρ' T'
      | .bk ρ' T' => .nx ρ' T'
      | r => r
    | none => .fail

mutual
def denS (C : Cn) (O : Cs) : CS → Rho → Cs → F
  | .asg g e, ρ, T => F.of ρ (den C O ρ e T) fun u T => match asgT O T g u ρ with
    | some ρ' => .nx ρ' T
    | none => .fail
  | .setf c o f e, ρ, T => F.of ρ (den C O ρ e T) fun v T => F.of ρ (den C O ρ o T) fun x T => if clsOf O T x = some c then F.of ρ (setfU O x f v T) fun _ T => .nx ρ T else .fail
  | .seti o i e, ρ, T => F.of ρ (den C O ρ e T) fun v T => F.of ρ (den C O ρ o T) fun x T => F.of ρ (den C O ρ i T) fun y T => F.of ρ (setiU O x y v T) fun _ T => .nx ρ T
  | .augf c o f e, ρ, T => F.of ρ (den C O ρ o T) fun x T => if clsOf O T x = some c then match fldU O x f T with
      | some (.d (.int i)) => F.of ρ (den C O ρ e T) fun y T => match y with
        | .d (.int j) => if clsOf O T x = some c then F.of ρ (setfU O x f (.d (.int (i + j))) T) fun _ T => .nx ρ T else .fail
        | _ => .fail
      | _ => .fail
    else .fail
  | .ex e, ρ, T => F.of ρ (den C O ρ e T) fun _ T => .nx ρ T
  | .ret e, ρ, T => F.of ρ (den C O ρ e T) fun u T => .rt u T
  | .retN, ρ, T => .rt (.d .none) T
  | .brk, ρ, T => .bk ρ T
  | .cnt, ρ, T => .ct ρ T
  | .pass, ρ, T => .nx ρ T
  | .ite t a b, ρ, T => F.of ρ (den C O ρ t T) fun x T => match asB x with
    | some true => denB C O a ρ T
    | some false => denB C O b ρ T
    | none => .fail
  | .for_ g it b, ρ, T => match denI C O ρ it T with
    | .ok its T0 => loopF (fun u ρ T => match asgT O T g u ρ with
        | some ρ' => denB C O b ρ' T
        | none => .fail) (fun T' => sameW O its.t T' its.w) its.us ρ T0
    | .exc c fs T => .exc c fs ρ T
    | .fail => .fail
  | .wh n t b, ρ, T => loopW (fun ρ T => den C O ρ t T) (fun ρ T => denB C O b ρ T) n ρ T
  | .bad, _, _ => .fail
def denB (C : Cn) (O : Cs) : CB → Rho → Cs → F
  | .nil, ρ, T => .nx ρ T
  | .cons s b, ρ, T => match denS C O s ρ T with
    | .nx ρ' T' => denB C O b ρ' T'
    | r => r
end

/-- a def -/
structure FD where
  np : Nat
  ns : Nat
  body : CB
/-- a program: defs by number, constants, classes -/
structure Pg where
  defs : Nat → Option FD
  glob : Nat → Option D

def bodyRun (C : Cn) (O : Cs) (fd : FD) (us : List U) (T : Cs) : R U :=
  if us.length = fd.np then match denB C O fd.body (us.map some ++ List.replicate (fd.ns - us.length) none) T with
    | .nx _ T' => .ok (.d .none) T'
    | .rt u T' => .ok u T'
    | .exc c fs _ T' => .exc c fs T'
    | _ => .fail
  else .fail
def run (G : Pg) : Nat → Cs → Nat → List U → Cs → R U
  | 0, _, _, _, _ => .fail
  | n + 1, O, f, us, T => match G.defs f with
    | some fd => bodyRun ⟨run G n, run G n, G.glob⟩ O fd us T
    | none => .fail
end Y

set_option Elab.async false
set_option linter.all false
namespace Y
open PySem L2

def Ex (H H' : Hp) : Prop := ∀ a o, H a = some o → H' a = some o
theorem Ex.refl (H : Hp) : Ex H H := fun _ _ h => h
theorem Ex.trans {H H1 H2 : Hp} (a : Ex H H1) (b : Ex H1 H2) : Ex H H2 := fun x o h => b x o (a x o h)
theorem Ex.new {H : Hp} {p : Addr} {o : HO} (h : H p = none) : Ex H (upd H p o) := fun a u e => by
  rw [upd_ne (ne_of_none e h)]
  exact e
theorem Ex.none {H H' : Hp} (e : Ex H H') {p : Addr} (h : H' p = Option.none) : H p = Option.none := by
  cases h1 : H p with
  | none => rfl
  | some o =>
    rw [e p o h1] at h
    cases h
/-- an object that H does not know may change -/
theorem Ex.mut {H H' : Hp} {p : Addr} {o : HO} (e : Ex H H') (h : H p = Option.none) : Ex H (upd H' p o) := fun a u ha => by
  rw [upd_ne (ne_of_none ha h)]
  exact e a u ha
theorem Ex.both {H H' : Hp} {p : Addr} {o : HO} (e : Ex H H') : Ex (upd H p o) (upd H' p o) := fun a u ha => by
  by_cases h : a = p
  · subst h
    rw [upd_same] at ha ⊢
    exact ha
  · rw [upd_ne h] at ha ⊢
    exact e a u ha
theorem Ex.into {H H' : Hp} {p : Addr} {o : HO} (e : Ex H H') (h : H' p = some o) : Ex (upd H p o) H' := fun a u ha => by
  by_cases q : a = p
  · subst q
    rw [upd_same] at ha
    rw [h]
    exact ha
  · rw [upd_ne q] at ha
    exact e a u ha
theorem Ex.rd {H H' : Hp} {a : Addr} {u : HO} (e : Ex H H') (h : Rd H a u) : Rd H' a u := by
  rcases h with h | ⟨o, h⟩
  · exact .inl (e a _ h)
  · exact .inr ⟨o, e a _ h⟩

mutual
inductive Rp (G : Hp) : V → D → Prop
  | non : Rp G .non .none
  | bl (b : Bool) : Rp G (.bl b) (.bool b)
  | int (i : Int) : Rp G (.int i) (.int i)
  | str (x : Str) : Rp G (.str x) (.str x)
  | lst {a : Addr} {vs : List V} {ds : List D} : Rd G a (.lst vs) → Rps G vs ds → Rp G (.ref a) (.list ds)
  | tup {a : Addr} {vs : List V} {ds : List D} : G a = some (.tup vs) → Rps G vs ds → Rp G (.ref a) (.tuple ds)
inductive Rps (G : Hp) : List V → List D → Prop
  | nil : Rps G [] []
  | cons {v : V} {vs : List V} {d : D} {ds : List D} : Rp G v d → Rps G vs ds → Rps G (v :: vs) (d :: ds)
end
mutual
inductive RpU (G : Hp) (φ : List Addr) : V → U → Prop
  | d {v : V} {x : D} : Rp G v x → RpU G φ v (.d x)
  | ref {i : Nat} {a : Addr} : φ[i]? = some a → RpU G φ (.ref a) (.ref i)
  | tup {a : Addr} {vs : List V} {us : List U} : G a = some (.tup vs) → RpUs G φ vs us → RpU G φ (.ref a) (.tup us)
inductive RpUs (G : Hp) (φ : List Addr) : List V → List U → Prop
  | nil : RpUs G φ [] []
  | cons {v : V} {vs : List V} {u : U} {us : List U} : RpU G φ v u → RpUs G φ vs us → RpUs G φ (v :: vs) (u :: us)
end
section
variable {G G' H : Hp} {φ φ' : List Addr} {K : PySem.W.Frag}
mutual
theorem Rp.mono (e : Ex G G') : ∀ (d : D) (v : V), Rp G v d → Rp G' v d
  | .none, _, h => by cases h; exact .non
  | .bool b, _, h => by cases h; exact .bl b
  | .int i, _, h => by cases h; exact .int i
  | .str x, _, h => by cases h; exact .str x
  | .list ds, _, h => by
    cases h with
    | lst h1 h2 => exact .lst (e.rd h1) (Rps.mono e ds _ h2)
  | .tuple ds, _, h => by
    cases h with
    | tup h1 h2 => exact .tup (e _ _ h1) (Rps.mono e ds _ h2)
  | .dict _, _, h => by cases h
theorem Rps.mono (e : Ex G G') : ∀ (ds : List D) (vs : List V), Rps G vs ds → Rps G' vs ds
  | [], _, h => by cases h; exact .nil
  | d :: ds, _, h => by
    cases h with
    | cons h1 h2 => exact .cons (Rp.mono e d _ h1) (Rps.mono e ds _ h2)
end
mutual
theorem Rp.dp (e : Ex G H) : ∀ (d : D) (v : V), Rp G v d → Dp K H v d
  | .none, _, h => by cases h; exact .non
  | .bool b, _, h => by cases h; exact .bl b
  | .int i, _, h => by cases h; exact .int i
  | .str x, _, h => by cases h; exact .str x
  | .list ds, _, h => by
    cases h with
    | lst h1 h2 => exact .lst (.inl (e.rd h1)) (Rps.dp e ds _ h2)
  | .tuple ds, _, h => by
    cases h with
    | tup h1 h2 => exact .tup (.inl (.inl (e _ _ h1))) (Rps.dp e ds _ h2)
  | .dict _, _, h => by cases h
theorem Rps.dp (e : Ex G H) : ∀ (ds : List D) (vs : List V), Rps G vs ds → DpAll K H vs ds
  | [], _, h => by cases h; exact .nil
  | d :: ds, _, h => by
    cases h with
    | cons h1 h2 => exact .cons (Rp.dp e d _ h1) (Rps.dp e ds _ h2)
end
mutual
theorem RpU.mono (e : Ex G G') (p : ∀ (i : Nat) (a : Addr), φ[i]? = some a → φ'[i]? = some a) : ∀ (u : U) (v : V), RpU G φ v u → RpU G' φ' v u
  | .d x, _, h => by cases h with | d h => exact .d (Rp.mono e x _ h)
  | .ref i, _, h => by cases h with | ref h => exact .ref (p _ _ h)
  | .tup us, _, h => by cases h with | tup h1 h2 => exact .tup (e _ _ h1) (RpUs.mono e p us _ h2)
theorem RpUs.mono (e : Ex G G') (p : ∀ (i : Nat) (a : Addr), φ[i]? = some a → φ'[i]? = some a) : ∀ (us : List U) (vs : List V), RpUs G φ vs us → RpUs G' φ' vs us
  | [], _, h => by cases h; exact .nil
  | u :: us, _, h => by
    cases h with
    | cons h1 h2 => exact .cons (RpU.mono e p u _ h1) (RpUs.mono e p us _ h2)
end
/-- the refs of a value that stood under φ stay under φ -/
theorem sub_get (p : ∀ (i : Nat) (a : Addr), φ[i]? = some a → φ'[i]? = some a) {i : Nat} {a b : Addr} (h : φ[i]? = some a) (h' : φ'[i]? = some b) : φ[i]? = some b := by
  have := p i a h
  rw [h'] at this
  cases this
  exact h
mutual
theorem RpU.back (p : ∀ (i : Nat) (a : Addr), φ[i]? = some a → φ'[i]? = some a) : ∀ (u : U) (v v' : V), RpU G φ v u → RpU G' φ' v' u → RpU G' φ v' u
  | .d x, _, _, _, h => by cases h with | d h => exact .d h
  | .ref i, _, _, h0, h => by
    cases h0 with
    | ref h0 => cases h with | ref h => exact .ref (sub_get p h0 h)
  | .tup us, _, _, h0, h => by
    cases h0 with
    | tup _ g2 => cases h with | tup h1 h2 => exact .tup h1 (RpUs.back p us _ _ g2 h2)
theorem RpUs.back (p : ∀ (i : Nat) (a : Addr), φ[i]? = some a → φ'[i]? = some a) : ∀ (us : List U) (vs vs' : List V), RpUs G φ vs us → RpUs G' φ' vs' us → RpUs G' φ vs' us
  | [], _, _, _, h => by cases h; exact .nil
  | u :: us, _, _, h0, h => by
    cases h0 with
    | cons g1 g2 => cases h with | cons h1 h2 => exact .cons (RpU.back p u _ _ g1 h1) (RpUs.back p us _ _ g2 h2)
end
theorem Rps.length : ∀ {ds : List D} {vs : List V}, Rps G vs ds → vs.length = ds.length
  | [], _, h => by cases h; rfl
  | d :: ds, _, h => by cases h with | cons _ h2 => simp [Rps.length h2]
theorem RpUs.length : ∀ {us : List U} {vs : List V}, RpUs G φ vs us → vs.length = us.length
  | [], _, h => by cases h; rfl
  | d :: ds, _, h => by cases h with | cons _ h2 => simp [RpUs.length h2]
theorem Rps.get : ∀ {ds : List D} {vs : List V} {i : Nat} {x : D}, Rps G vs ds → ds[i]? = some x → ∃ v, vs[i]? = some v ∧ Rp G v x
  | [], _, _, _, _, e => by simp at e
  | d :: ds, _, 0, x, h, e => by cases h with | cons h1 _ => simp at e; subst e; exact ⟨_, rfl, h1⟩
  | d :: ds, _, i + 1, x, h, e => by
    cases h with
    | cons _ h2 =>
      obtain ⟨v, q1, q2⟩ := Rps.get (i := i) h2 (by simpa using e)
      exact ⟨v, by simpa using q1, q2⟩
theorem RpUs.get : ∀ {us : List U} {vs : List V} {i : Nat} {x : U}, RpUs G φ vs us → us[i]? = some x → ∃ v, vs[i]? = some v ∧ RpU G φ v x
  | [], _, _, _, _, e => by simp at e
  | d :: ds, _, 0, x, h, e => by cases h with | cons h1 _ => simp at e; subst e; exact ⟨_, rfl, h1⟩
  | d :: ds, _, i + 1, x, h, e => by
    cases h with
    | cons _ h2 =>
      obtain ⟨v, q1, q2⟩ := RpUs.get (i := i) h2 (by simpa using e)
      exact ⟨v, by simpa using q1, q2⟩
theorem RpUs.get' : ∀ {us : List U} {vs : List V} {i : Nat} {v : V}, RpUs G φ vs us → vs[i]? = some v → ∃ x, us[i]? = some x ∧ RpU G φ v x
  | [], _, _, _, h, e => by cases h; simp at e
  | d :: ds, _, 0, x, h, e => by cases h with | cons h1 _ => simp at e; subst e; exact ⟨_, rfl, h1⟩
  | d :: ds, _, i + 1, x, h, e => by
    cases h with
    | cons _ h2 =>
      obtain ⟨v, q1, q2⟩ := RpUs.get' (i := i) h2 (by simpa using e)
      exact ⟨v, by simpa using q1, q2⟩
theorem RpUs.append : ∀ {us ws : List U} {vs zs : List V}, RpUs G φ vs us → RpUs G φ zs ws → RpUs G φ (vs ++ zs) (us ++ ws)
  | [], _, _, _, h, q => by cases h; exact q
  | d :: ds, _, _, _, h, q => by cases h with | cons h1 h2 => exact .cons h1 (RpUs.append h2 q)
theorem RpUs.take : ∀ {us : List U} {vs : List V} (n : Nat), RpUs G φ vs us → RpUs G φ (vs.take n) (us.take n)
  | _, _, 0, _ => .nil
  | [], _, _ + 1, h => by cases h; exact .nil
  | d :: ds, _, n + 1, h => by cases h with | cons h1 h2 => exact .cons h1 (RpUs.take n h2)
theorem RpUs.drop : ∀ {us : List U} {vs : List V} (n : Nat), RpUs G φ vs us → RpUs G φ (vs.drop n) (us.drop n)
  | _, _, 0, h => h
  | [], _, _ + 1, h => by cases h; exact .nil
  | d :: ds, _, n + 1, h => by cases h with | cons h1 h2 => exact RpUs.drop n h2
theorem RpUs.set {v : V} {u : U} (h : RpU G φ v u) : ∀ {us : List U} {vs : List V} (n : Nat), RpUs G φ vs us → RpUs G φ (vs.set n v) (us.set n u)
  | [], _, _, q => by cases q; exact .nil
  | d :: ds, _, 0, q => by cases q with | cons _ h2 => exact .cons h h2
  | d :: ds, _, n + 1, q => by cases q with | cons h1 h2 => exact .cons h1 (RpUs.set h n h2)
theorem RpUs.reverse : ∀ {us : List U} {vs : List V}, RpUs G φ vs us → RpUs G φ vs.reverse us.reverse
  | [], _, h => by cases h; exact .nil
  | d :: ds, _, h => by
    cases h with
    | cons h1 h2 =>
      simp only [List.reverse_cons]
      exact (RpUs.reverse h2).append (.cons h1 .nil)
theorem RpUs.dropLast {us : List U} {vs : List V} (h : RpUs G φ vs us) : RpUs G φ vs.dropLast us.dropLast := by
  rw [List.dropLast_eq_take, List.dropLast_eq_take, h.length]
  exact h.take _
theorem RpUs.eraseIdx : ∀ {us : List U} {vs : List V} (n : Nat), RpUs G φ vs us → RpUs G φ (vs.eraseIdx n) (us.eraseIdx n)
  | [], _, _, q => by cases q; exact .nil
  | d :: ds, _, 0, q => by cases q with | cons _ h2 => exact h2
  | d :: ds, _, n + 1, q => by cases q with | cons h1 h2 => exact .cons h1 (RpUs.eraseIdx n h2)
theorem RpUs.replicate {us : List U} {vs : List V} (h : RpUs G φ vs us) : ∀ n : Nat, RpUs G φ (List.replicate n vs).flatten (List.replicate n us).flatten
  | 0 => .nil
  | n + 1 => by
    simp only [List.replicate_succ, List.flatten_cons]
    exact h.append (RpUs.replicate h n)
theorem Rps.up : ∀ {ds : List D} {vs : List V}, Rps G vs ds → RpUs G φ vs (ds.map .d)
  | [], _, h => by cases h; exact .nil
  | d :: ds, _, h => by cases h with | cons h1 h2 => exact .cons (.d h1) (Rps.up h2)
theorem RpUs.down : ∀ {us : List U} {vs : List V} {ds : List D}, RpUs G φ vs us → allD us = some ds → Rps G vs ds
  | [], _, ds, h, e => by cases h; simp [allD] at e; subst e; exact .nil
  | .d x :: us, _, ds, h, e => by
    cases h with
    | cons h1 h2 =>
      cases h1 with
      | d h1 =>
        simp only [allD, Option.map_eq_some_iff] at e
        obtain ⟨r, e1, rfl⟩ := e
        exact .cons h1 (RpUs.down h2 e1)
  | .ref _ :: us, _, ds, h, e => by simp [allD] at e
  | .tup _ :: us, _, ds, h, e => by simp [allD] at e
theorem RpUs.downD {ds : List D} {vs : List V} (h : RpUs G φ vs (ds.map .d)) : Rps G vs ds := by
  refine h.down ?_
  clear h
  induction ds with
  | nil => rfl
  | cons d ds ih => simp [allD, ih]
end
@[simp] theorem allD_map (ds : List D) : allD (ds.map .d) = some ds := by
  induction ds with
  | nil => rfl
  | cons d ds ih => simp [allD, ih]
@[simp] theorem allD_map' {α : Type} (f : α → D) (xs : List α) : allD (xs.map fun x => .d (f x)) = some (xs.map f) := by
  induction xs with
  | nil => rfl
  | cons d ds ih => simp [allD, ih]
theorem allD_of : ∀ {us : List U} {ds : List D}, allD us = some ds → us = ds.map .d
  | [], ds, e => by simp [allD] at e; subst e; rfl
  | .d x :: us, ds, e => by
    simp only [allD, Option.map_eq_some_iff] at e
    obtain ⟨r, e1, rfl⟩ := e
    rw [allD_of e1] <;> rfl
  | .ref _ :: us, ds, e => by simp [allD] at e
  | .tup _ :: us, ds, e => by simp [allD] at e

/-- pairs of a dict -/
inductive RpK (G : Hp) (φ : List Addr) : List (List Key × V) → List (Ky × U) → Prop
  | nil : RpK G φ [] []
  | cons {k : Ky} {v : V} {u : U} {ws kvs} : RpU G φ v u → RpK G φ ws kvs → RpK G φ ((k, v) :: ws) ((k, u) :: kvs)
/-- fields of an instance -/
inductive RpF (G : Hp) (φ : List Addr) : List (Str × V) → List (Str × U) → Prop
  | nil : RpF G φ [] []
  | cons {k : Str} {v : V} {u : U} {ws fs} : RpU G φ v u → RpF G φ ws fs → RpF G φ ((k, v) :: ws) ((k, u) :: fs)

/-- a live cell stands at a -/
def CellOk (ca : Nat → Addr) (G : Hp) (φ : List Addr) (H : Hp) (a : Addr) : Cell → Prop
  | .lst ds => ∃ vs, H a = some (.lst vs) ∧ Rps G vs ds
  | .lstU us => ∃ vs, H a = some (.lst vs) ∧ RpUs G φ vs us
  | .dct kvs => ∃ ws, H a = some (.dT ws) ∧ RpK G φ ws (kvs.map fun p => (p.1, .d p.2))
  | .dctU kvs => ∃ ws, H a = some (.dT ws) ∧ RpK G φ ws kvs
  | .ins c fs => ∃ dx ws, H a = some (.ins (ca c) dx ws) ∧ RpF G φ ws fs
  | .dead => True
def live : Cell → Prop
  | .dead => False
  | _ => True
/-- the store S stands in H, over what is known for ever, G -/
structure Sd (ca : Nat → Addr) (φ : List Addr) (G H : Hp) (S : Cs) : Prop where
  len : φ.length = S.length
  nd : φ.Nodup
  ex : Ex G H
  off : ∀ (i : Nat) (a : Addr) (c : Cell), φ[i]? = some a → S[i]? = some c → live c → G a = none
  kn : ∀ (i : Nat) (a : Addr), φ[i]? = some a → ∃ o, H a = some o
  cell : ∀ (i : Nat) (a : Addr) (c : Cell), φ[i]? = some a → S[i]? = some c → CellOk ca G φ H a c
/-- locals -/
def Lo (G : Hp) (φ : List Addr) (σ : St) (ρ : Rho) : Prop := ∀ (i : Nat) (u : U), ρ[i]? = some (some u) → ∃ v, σ[i]? = some (some v) ∧ RpU G φ v u
/-- later: more is known, more cells -/
structure Fut (φ : List Addr) (G : Hp) (φ' : List Addr) (G' : Hp) : Prop where
  pre : ∀ (i : Nat) (a : Addr), φ[i]? = some a → φ'[i]? = some a
  ex : Ex G G'
theorem Fut.refl {φ : List Addr} {G : Hp} : Fut φ G φ G := ⟨fun _ _ h => h, Ex.refl G⟩
theorem Fut.trans {φ φ1 φ2 : List Addr} {G G1 G2 : Hp} (a : Fut φ G φ1 G1) (b : Fut φ1 G1 φ2 G2) : Fut φ G φ2 G2 := ⟨fun i x h => b.pre i x (a.pre i x h), a.ex.trans b.ex⟩
theorem Fut.u {φ φ1 : List Addr} {G G1 : Hp} (a : Fut φ G φ1 G1) {v : V} {u : U} (h : RpU G φ v u) : RpU G1 φ1 v u := RpU.mono a.ex a.pre u v h
theorem Fut.us {φ φ1 : List Addr} {G G1 : Hp} (a : Fut φ G φ1 G1) {v : List V} {u : List U} (h : RpUs G φ v u) : RpUs G1 φ1 v u := RpUs.mono a.ex a.pre u v h
theorem Fut.lo {φ φ1 : List Addr} {G G1 : Hp} (a : Fut φ G φ1 G1) {σ : St} {ρ : Rho} (h : Lo G φ σ ρ) : Lo G1 φ1 σ ρ := fun i u e =>
  let ⟨v, h1, h2⟩ := h i u e
  ⟨v, h1, a.u h2⟩
theorem Fut.k {φ φ1 : List Addr} {G G1 : Hp} (a : Fut φ G φ1 G1) : ∀ {ws : List (List Key × V)} {kvs : List (Ky × U)}, RpK G φ ws kvs → RpK G1 φ1 ws kvs
  | _, _, .nil => .nil
  | _, _, .cons h t => .cons (a.u h) (Fut.k a t)
theorem Fut.f {φ φ1 : List Addr} {G G1 : Hp} (a : Fut φ G φ1 G1) : ∀ {ws : List (Str × V)} {kvs : List (Str × U)}, RpF G φ ws kvs → RpF G1 φ1 ws kvs
  | _, _, .nil => .nil
  | _, _, .cons h t => .cons (a.u h) (Fut.f a t)
theorem RpK.back {φ φ' : List Addr} {G G' : Hp} (p : ∀ (i : Nat) (a : Addr), φ[i]? = some a → φ'[i]? = some a) : ∀ {ws ws' : List (List Key × V)} {kvs : List (Ky × U)}, RpK G φ ws kvs → RpK G' φ' ws' kvs → RpK G' φ ws' kvs
  | _, _, _, .nil, .nil => .nil
  | _, _, _, .cons g t, .cons h q => .cons (RpU.back p _ _ _ g h) (RpK.back p t q)
theorem RpF.back {φ φ' : List Addr} {G G' : Hp} (p : ∀ (i : Nat) (a : Addr), φ[i]? = some a → φ'[i]? = some a) : ∀ {ws ws' : List (Str × V)} {kvs : List (Str × U)}, RpF G φ ws kvs → RpF G' φ' ws' kvs → RpF G' φ ws' kvs
  | _, _, _, .nil, .nil => .nil
  | _, _, _, .cons g t, .cons h q => .cons (RpU.back p _ _ _ g h) (RpF.back p t q)
section
variable {ca : Nat → Addr} {φ φ' : List Addr} {G G' H H' : Hp} {S : Cs} {a : Addr} {c : Cell}
theorem CellOk.mono (f : Fut φ G φ' G') (e : H' a = H a) (h : CellOk ca G φ H a c) : CellOk ca G' φ' H' a c := by
  cases c with
  | lst ds => obtain ⟨vs, h1, h2⟩ := h; exact ⟨vs, e.trans h1, Rps.mono f.ex _ _ h2⟩
  | lstU us => obtain ⟨vs, h1, h2⟩ := h; exact ⟨vs, e.trans h1, f.us h2⟩
  | dct kvs => obtain ⟨vs, h1, h2⟩ := h; exact ⟨vs, e.trans h1, f.k h2⟩
  | dctU kvs => obtain ⟨vs, h1, h2⟩ := h; exact ⟨vs, e.trans h1, f.k h2⟩
  | ins k fs => obtain ⟨dx, vs, h1, h2⟩ := h; exact ⟨dx, vs, e.trans h1, f.f h2⟩
  | dead => trivial
theorem CellOk.back (p : ∀ (i : Nat) (a : Addr), φ[i]? = some a → φ'[i]? = some a) (g : CellOk ca G φ H a c) (h : CellOk ca G' φ' H' a c) : CellOk ca G' φ H' a c := by
  cases c with
  | lst ds => exact h
  | lstU us => obtain ⟨_, _, g2⟩ := g; obtain ⟨vs, h1, h2⟩ := h; exact ⟨vs, h1, RpUs.back p _ _ _ g2 h2⟩
  | dct kvs => obtain ⟨_, _, g2⟩ := g; obtain ⟨vs, h1, h2⟩ := h; exact ⟨vs, h1, RpK.back p g2 h2⟩
  | dctU kvs => obtain ⟨_, _, g2⟩ := g; obtain ⟨vs, h1, h2⟩ := h; exact ⟨vs, h1, RpK.back p g2 h2⟩
  | ins k fs => obtain ⟨_, _, _, g2⟩ := g; obtain ⟨dx, vs, h1, h2⟩ := h; exact ⟨dx, vs, h1, RpF.back p g2 h2⟩
  | dead => trivial
theorem nd_ne (nd : φ.Nodup) {i j : Nat} {a b : Addr} (hi : φ[i]? = some a) (hj : φ[j]? = some b) (h : i ≠ j) : a ≠ b := by
  intro e
  subst e
  obtain ⟨li, ei⟩ := List.getElem?_eq_some_iff.mp hi
  obtain ⟨lj, ej⟩ := List.getElem?_eq_some_iff.mp hj
  exact h ((List.getElem?_inj li nd).mp (hi.trans hj.symm))
/-- a new thing that is known for ever -/
theorem Sd.know (s : Sd ca φ G H S) {p : Addr} {o : HO} (np : H p = none) : Sd ca φ (upd G p o) (upd H p o) S := by
  have ne : ∀ (i : Nat) (a : Addr), φ[i]? = some a → a ≠ p := fun i a h => by
    obtain ⟨o', h'⟩ := s.kn i a h
    exact ne_of_none h' np
  refine ⟨s.len, s.nd, s.ex.both, fun i a c h1 h2 h3 => ?_, fun i a h => ?_, fun i a c h1 h2 => ?_⟩
  · rw [upd_ne (ne i a h1)]; exact s.off i a c h1 h2 h3
  · rw [upd_ne (ne i a h)]; exact s.kn i a h
  · exact (s.cell i a c h1 h2).mono ⟨fun _ _ h => h, Ex.new (s.ex.none np)⟩ (upd_ne (ne i a h1))
theorem Sd.knowF (s : Sd ca φ G H S) {p : Addr} {o : HO} (np : H p = none) : Fut φ G φ (upd G p o) := ⟨fun _ _ h => h, Ex.new (s.ex.none np)⟩
/-- the heap grows by what nobody speaks of -/
theorem Sd.grow (s : Sd ca φ G H S) {p : Addr} {o : HO} (np : H p = none) : Sd ca φ G (upd H p o) S := by
  have ne : ∀ (i : Nat) (a : Addr), φ[i]? = some a → a ≠ p := fun i a h => by
    obtain ⟨o', h'⟩ := s.kn i a h
    exact ne_of_none h' np
  refine ⟨s.len, s.nd, s.ex.trans (Ex.new np), s.off, fun i a h => ?_, fun i a c h1 h2 => ?_⟩
  · rw [upd_ne (ne i a h)]; exact s.kn i a h
  · exact (s.cell i a c h1 h2).mono Fut.refl (upd_ne (ne i a h1))
theorem get_append_last {α : Type} {xs : List α} {x y : α} {i : Nat} (h : (xs ++ [x])[i]? = some y) : xs[i]? = some y ∨ i = xs.length ∧ y = x := by
  by_cases hi : i < xs.length
  · rw [List.getElem?_append_left hi] at h; exact .inl h
  · rw [List.getElem?_append_right (by omega)] at h
    have : i - xs.length = 0 := by
      cases q : i - xs.length with
      | zero => rfl
      | succ n => rw [q] at h; simp at h
    rw [this] at h
    simp at h
    exact .inr ⟨by omega, h.symm⟩
theorem pre_append (φ ψ : List Addr) : ∀ (i : Nat) (a : Addr), φ[i]? = some a → (φ ++ ψ)[i]? = some a := fun i a h => by
  rw [List.getElem?_append_left (List.getElem?_eq_some_iff.mp h).1]
  exact h
/-- a new live cell -/
theorem Sd.cellNew (s : Sd ca φ G H S) {p : Addr} {o : HO} {c : Cell} (np : H p = none) (hc : CellOk ca G (φ ++ [p]) (upd H p o) p c) : Sd ca (φ ++ [p]) G (upd H p o) (S ++ [c]) := by
  have ne : ∀ (i : Nat) (a : Addr), φ[i]? = some a → a ≠ p := fun i a h => by
    obtain ⟨o', h'⟩ := s.kn i a h
    exact ne_of_none h' np
  refine ⟨by simp [s.len], ?_, s.ex.trans (Ex.new np), fun i a c h1 h2 h3 => ?_, fun i a h => ?_, fun i a c h1 h2 => ?_⟩
  · rw [List.nodup_append]
    refine ⟨s.nd, by simp, fun a ha b hb => ?_⟩
    simp at hb
    subst hb
    obtain ⟨i, hi⟩ := List.getElem?_of_mem ha
    exact ne i a hi
  · rcases get_append_last h1 with h1 | ⟨e, rfl⟩
    · rcases get_append_last h2 with h2 | ⟨e, rfl⟩
      · exact s.off i a c h1 h2 h3
      · have := (List.getElem?_eq_some_iff.mp h1).1; rw [s.len] at this; omega
    · exact s.ex.none np
  · rcases get_append_last h with h1 | ⟨e, rfl⟩
    · rw [upd_ne (ne i a h1)]; exact s.kn i a h1
    · exact ⟨_, upd_same⟩
  · rcases get_append_last h1 with h1 | ⟨e, rfl⟩
    · rcases get_append_last h2 with h2 | ⟨e, rfl⟩
      · exact (s.cell i a c h1 h2).mono ⟨pre_append φ [p], Ex.refl G⟩ (upd_ne (ne i a h1))
      · have := (List.getElem?_eq_some_iff.mp h1).1; rw [s.len] at this; omega
    · rcases get_append_last h2 with h2 | ⟨e2, rfl⟩
      · have := (List.getElem?_eq_some_iff.mp h2).1; rw [← s.len] at this; omega
      · exact hc
theorem Sd.newF {p : Addr} : Fut φ G (φ ++ [p]) G := ⟨pre_append φ [p], Ex.refl G⟩
/-- a live cell is changed -/
theorem Sd.write (s : Sd ca φ G H S) {i : Nat} {a : Addr} {c c' : Cell} {o : HO} (hi : φ[i]? = some a) (hc : S[i]? = some c) (hl : live c) (h : CellOk ca G φ (upd H a o) a c') : Sd ca φ G (upd H a o) (S.set i c') := by
  have ga := s.off i a c hi hc hl
  have lt := (List.getElem?_eq_some_iff.mp hc).1
  refine ⟨by simp [s.len], s.nd, s.ex.mut ga, fun j b d h1 h2 h3 => ?_, fun j b h1 => ?_, fun j b d h1 h2 => ?_⟩
  · by_cases e : j = i
    · subst e; rw [hi] at h1; cases h1; exact ga
    · rw [List.getElem?_set_ne (Ne.symm e)] at h2; exact s.off j b d h1 h2 h3
  · by_cases e : b = a
    · subst e; exact ⟨_, upd_same⟩
    · rw [upd_ne e]; exact s.kn j b h1
  · by_cases e : j = i
    · subst e
      rw [hi] at h1; cases h1
      rw [List.getElem?_set_self lt] at h2; cases h2
      exact h
    · rw [List.getElem?_set_ne (Ne.symm e)] at h2
      exact (s.cell j b d h1 h2).mono Fut.refl (upd_ne (nd_ne s.nd h1 hi e))
/-- a live list becomes known for ever -/
theorem Sd.freeze (s : Sd ca φ G H S) {i : Nat} {a : Addr} {c : Cell} {o : HO} (hi : φ[i]? = some a) (hc : S[i]? = some c) (hl : live c) (h : H a = some o) : Sd ca φ (upd G a o) H (S.set i .dead) := by
  have ga := s.off i a c hi hc hl
  have lt := (List.getElem?_eq_some_iff.mp hc).1
  refine ⟨by simp [s.len], s.nd, s.ex.into h, fun j b d h1 h2 h3 => ?_, s.kn, fun j b d h1 h2 => ?_⟩
  · by_cases e : j = i
    · subst e; rw [List.getElem?_set_self lt] at h2; cases h2; exact h3.elim
    · rw [List.getElem?_set_ne (Ne.symm e)] at h2
      rw [upd_ne (nd_ne s.nd h1 hi e)]
      exact s.off j b d h1 h2 h3
  · by_cases e : j = i
    · subst e; rw [List.getElem?_set_self lt] at h2; cases h2; trivial
    · rw [List.getElem?_set_ne (Ne.symm e)] at h2
      exact (s.cell j b d h1 h2).mono ⟨fun _ _ h => h, Ex.new ga⟩ rfl
theorem Sd.freezeF (s : Sd ca φ G H S) {i : Nat} {a : Addr} {c : Cell} {o : HO} (hi : φ[i]? = some a) (hc : S[i]? = some c) (hl : live c) : Fut φ G φ (upd G a o) := ⟨fun _ _ h => h, Ex.new (s.off i a c hi hc hl)⟩
/-- behind a call that leaves the cells as they were, its own cells forgotten -/
theorem Sd.drop {S' : Cs} (s : Sd ca φ G H S) (f : Fut φ G φ' G') (s' : Sd ca φ' G' H' (S ++ S')) : Sd ca φ G' H' S := by
  refine ⟨s.len, s.nd, s'.ex, fun i a c h1 h2 h3 => ?_, fun i a h => s'.kn i a (f.pre i a h), fun i a c h1 h2 => ?_⟩
  · exact s'.off i a c (f.pre i a h1) (by rw [List.getElem?_append_left (List.getElem?_eq_some_iff.mp h2).1]; exact h2) h3
  · exact (s.cell i a c h1 h2).back f.pre (s'.cell i a c (f.pre i a h1) (by rw [List.getElem?_append_left (List.getElem?_eq_some_iff.mp h2).1]; exact h2))
theorem getC_eq (O T : Cs) (i : Nat) : getC O T i = (O ++ T)[i]? := by
  unfold getC
  by_cases h : i < O.length
  · rw [if_pos h, List.getElem?_append_left h]
  · rw [if_neg h, List.getElem?_append_right (by omega)]
theorem set_own (O T : Cs) (i : Nat) (c : Cell) (h : O.length ≤ i) : (O ++ T).set i c = O ++ T.set (i - O.length) c := by
  rw [List.set_append_right (h := h)]
end
end Y

set_option Elab.async false
set_option linter.all false
set_option maxRecDepth 100000
set_option maxHeartbeats 1000000
namespace Y
open PySem PySem.Spec L2

section
variable {ca : Nat → Addr} {α β γ : Type} {φ φ' : List Addr} {G G' H : Hp} {O : Cs}
/-- what is wanted of a result -/
def Pc (ca : Nat → Addr) (rel : Hp → List Addr → β → α → Prop) (φ : List Addr) (G : Hp) (O : Cs) (r : R α) (Q : β → Hp → Prop) : Prop :=
  match r with
  | .ok a T => ∀ (b : β) (φ' : List Addr) (G' H' : Hp), Fut φ G φ' G' → Sd ca φ' G' H' (O ++ T) → rel G' φ' b a → Q b H'
  | .exc _ _ _ => False
  | .fail => False
def rU (G : Hp) (φ : List Addr) (v : V) (u : U) : Prop := RpU G φ v u
def rUs (G : Hp) (φ : List Addr) (v : List V) (u : List U) : Prop := RpUs G φ v u
def rB (_ : Hp) (_ : List Addr) (b : Bool) (u : Bool) : Prop := b = u
def tst (r : R U) : R Bool := r.bind fun u T => R.ofO T (asB u)
theorem Pc.later {rel : Hp → List Addr → β → α → Prop} {r : R α} {Q : β → Hp → Prop} (f : Fut φ G φ' G') (h : Pc ca rel φ G O r Q) : Pc ca rel φ' G' O r Q := by
  cases r with
  | ok a T => exact fun b φ2 G2 H2 f2 s r => h b φ2 G2 H2 (f.trans f2) s r
  | exc => exact h
  | fail => exact h
theorem Pc.imp {rel : Hp → List Addr → β → α → Prop} {r : R α} {Q Q' : β → Hp → Prop} (h : Pc ca rel φ G O r Q) (k : ∀ b H', Q b H' → Q' b H') : Pc ca rel φ G O r Q' := by
  cases r with
  | ok a T => exact fun b φ2 G2 H2 f2 s r => k _ _ (h b φ2 G2 H2 f2 s r)
  | exc => exact h
  | fail => exact h
/-- what is known when a part is through -/
structure Mid (ca : Nat → Addr) (rel : Hp → List Addr → β → α → Prop) (φ : List Addr) (G : Hp) (O : Cs) (b : β) (H' : Hp) (k : α → Cs → List Addr → Hp → Prop) : Prop where
  ex : ∃ (φ' : List Addr) (G' : Hp) (T' : Cs) (a : α), Fut φ G φ' G' ∧ Sd ca φ' G' H' (O ++ T') ∧ rel G' φ' b a ∧ k a T' φ' G'
theorem Pc.bind {δ : Type} {rel : Hp → List Addr → β → α → Prop} {rel2 : Hp → List Addr → δ → γ → Prop} {r : R α} {k : α → Cs → R γ} {Q : δ → Hp → Prop} (h : Pc ca rel2 φ G O (r.bind k) Q) :
    Pc ca rel φ G O r (fun b H' => Mid ca rel φ G O b H' fun a T' φ' G' => Pc ca rel2 φ' G' O (k a T') Q) := by
  cases r with
  | ok a T =>
    have h : Pc ca rel2 φ G O (k a T) Q := h
    exact fun b φ2 G2 H2 f2 s r => ⟨φ2, G2, T, a, f2, s, r, h.later f2⟩
  | exc => exact h
  | fail => exact h
/-- the same, the wish kept as it was told first -/
theorem Pc.keep {δ : Type} {rel : Hp → List Addr → β → α → Prop} {rel2 : Hp → List Addr → δ → γ → Prop} {φ1 : List Addr} {G1 : Hp} {r : R α} {k : α → Cs → R γ} {Q : δ → Hp → Prop} (h : Pc ca rel2 φ1 G1 O (r.bind k) Q) :
    Pc ca rel φ G O r (fun b H' => Mid ca rel φ G O b H' fun a T' φ' G' => Pc ca rel2 φ1 G1 O (k a T') Q) := by
  cases r with
  | ok a T =>
    have h : Pc ca rel2 φ1 G1 O (k a T) Q := h
    exact fun b φ2 G2 H2 f2 s r => ⟨φ2, G2, T, a, f2, s, r, h⟩
  | exc => exact h
  | fail => exact h
/-- at once -/
theorem Pc.now {rel : Hp → List Addr → β → α → Prop} {a : α} {b : β} {T : Cs} {Q : β → Hp → Prop} (h : Pc ca rel φ G O (.ok a T) Q) (s : Sd ca φ G H (O ++ T)) (r : rel G φ b a) : Q b H := h b φ G H Fut.refl s r
theorem _root_.L2.PE.imp {X : Cx} {e : Expr} {t t' : TE} (h : PE X e t) (k : ∀ σ H Q, t' σ H Q → t σ H Q) : PE X e t' := ⟨fun pins s σ H Q I q => h.run pins s σ H Q I (k σ H Q q)⟩
theorem _root_.L2.PT.imp {X : Cx} {e : Expr} {t t' : TT} (h : PT X e t) (k : ∀ σ H Q, t' σ H Q → t σ H Q) : PT X e t' := ⟨fun pins s σ H Q I q => h.run pins s σ H Q I (k σ H Q q)⟩
theorem _root_.L2.PW.imp {X : Cx} {e : Expr} {t t' : TT} (h : PW X e t) (k : ∀ σ H Q, t' σ H Q → t σ H Q) : PW X e t' := ⟨fun wh pins s σ H Q I q => h.run wh pins s σ H Q I (k σ H Q q)⟩
theorem _root_.L2.PA.imp {X : Cx} {e : List Expr} {t t' : TA} (h : PA X e t) (k : ∀ σ H Q, t' σ H Q → t σ H Q) : PA X e t' := ⟨fun pos pins s σ H Q I q => h.run pos pins s σ H Q I (k σ H Q q)⟩
theorem _root_.L2.PS.imp {X : Cx} {e : Stmt} {t t' : TS} (h : PS X e t) (k : ∀ D σ H, t' D σ H → t D σ H) : PS X e t' := ⟨fun pins s σ H D I q => h.run pins s σ H D I (k D σ H q)⟩
theorem _root_.L2.PSs.imp {X : Cx} {e : List Stmt} {t t' : TS} (h : PSs X e t) (k : ∀ D σ H, t' D σ H → t D σ H) : PSs X e t' := ⟨fun pins s σ H D I q => h.run pins s σ H D I (k D σ H q)⟩
theorem _root_.L2.PG.imp {X : Cx} {e : Expr} {t t' : TG} (h : PG X e t) (k : ∀ v σ H Q, t' v σ H Q → t v σ H Q) : PG X e t' := by
  refine ⟨?_⟩
  intro pins s σ H v u Q I r q
  exact h.run pins s σ H v u Q I r (k v σ H Q q)

/-- the state at a part: cells, locals -/
structure At (ca : Nat → Addr) (φ : List Addr) (G H : Hp) (O T : Cs) (σ : St) (ρ : Rho) : Prop where
  s : Sd ca φ G H (O ++ T)
  l : Lo G φ σ ρ
  n : σ.length = ρ.length
def RE (ca : Nat → Addr) (C : Cn) (c : CE) : TE := fun σ H Q => ∃ φ G O ρ T, At ca φ G H O T σ ρ ∧ Pc ca rU φ G O (den C O ρ c T) Q
def RT (ca : Nat → Addr) (C : Cn) (c : CE) : TT := fun σ H Q => ∃ φ G O ρ T, At ca φ G H O T σ ρ ∧ Pc ca rB φ G O (tst (den C O ρ c T)) Q
def RA (ca : Nat → Addr) (C : Cn) (c : CA) : TA := fun σ H Q => ∃ φ G O ρ T, At ca φ G H O T σ ρ ∧ Pc ca rUs φ G O (denA C O ρ c T) Q
/-- operations on values -/
def rOp2 (ca : Nat → Addr) (f : Cs → U → U → Cs → R U) : R2 := fun x y H Q => ∃ φ G O T u w, Sd ca φ G H (O ++ T) ∧ RpU G φ x u ∧ RpU G φ y w ∧ Pc ca rU φ G O (f O u w T) Q
def rOp1 (ca : Nat → Addr) (f : Cs → U → Cs → R U) : V → Hp → VK → Prop := fun x H Q => ∃ φ G O T u, Sd ca φ G H (O ++ T) ∧ RpU G φ x u ∧ Pc ca rU φ G O (f O u T) Q
def rOpA (ca : Nat → Addr) (f : Cs → List U → Cs → R U) : List V → Hp → VK → Prop := fun xs H Q => ∃ φ G O T us, Sd ca φ G H (O ++ T) ∧ RpUs G φ xs us ∧ Pc ca rU φ G O (f O us T) Q
def rOpM (ca : Nat → Addr) (f : Cs → U → List U → Cs → R U) : V → List V → Hp → VK → Prop := fun x xs H Q => ∃ φ G O T u us, Sd ca φ G H (O ++ T) ∧ RpU G φ x u ∧ RpUs G φ xs us ∧ Pc ca rU φ G O (f O u us T) Q
variable {X : Cx} {C : Cn} {a b e : Expr} {ea eb ec : CE} {pos : Pos}
/-- two parts, then an operation -/
theorem to_op2 {f : Cs → U → U → Cs → R U} {c : CE} (hc : ∀ O ρ T, den C O ρ c T = (den C O ρ ea T).bind fun x T => (den C O ρ eb T).bind fun y T => f O x y T) :
    ∀ σ H Q, RE ca C c σ H Q → tOp (rOp2 ca f) (RE ca C ea) (RE ca C eb) σ H Q := by
  rintro σ H Q ⟨φ, G, O, ρ, T, t, h⟩
  rw [hc] at h
  refine ⟨φ, G, O, ρ, T, t, Pc.imp h.bind ?_⟩
  rintro x H1 ⟨φ1, G1, T1, u, f1, s1, r1, h1⟩
  refine ⟨φ1, G1, O, ρ, T1, ⟨s1, f1.lo t.l, t.n⟩, Pc.imp h1.bind ?_⟩
  rintro y H2 ⟨φ2, G2, T2, w, f2, s2, r2, h2⟩
  exact ⟨φ2, G2, O, T2, u, w, s2, f2.u r1, r2, h2⟩
theorem to_op1 {f : Cs → U → Cs → R U} {c : CE} (hc : ∀ O ρ T, den C O ρ c T = (den C O ρ ea T).bind fun x T => f O x T) :
    ∀ σ H Q, RE ca C c σ H Q → tUn (rOp1 ca f) (RE ca C ea) σ H Q := by
  rintro σ H Q ⟨φ, G, O, ρ, T, t, h⟩
  rw [hc] at h
  refine ⟨φ, G, O, ρ, T, t, Pc.imp h.bind ?_⟩
  rintro x H1 ⟨φ1, G1, T1, u, f1, s1, r1, h1⟩
  exact ⟨φ1, G1, O, T1, u, s1, r1, h1⟩
theorem to_opA {f : Cs → List U → Cs → R U} {c : CE} {as : CA} (hc : ∀ O ρ T, den C O ρ c T = (denA C O ρ as T).bind fun x T => f O x T) :
    ∀ σ H Q, RE ca C c σ H Q → tCB (rOpA ca f) (RA ca C as) σ H Q := by
  rintro σ H Q ⟨φ, G, O, ρ, T, t, h⟩
  rw [hc] at h
  refine ⟨φ, G, O, ρ, T, t, Pc.imp h.bind ?_⟩
  rintro x H1 ⟨φ1, G1, T1, u, f1, s1, r1, h1⟩
  exact ⟨φ1, G1, O, T1, u, s1, r1, h1⟩
theorem pa_nil' : PA X [] (RA ca C .nil) := pa_nil.imp fun σ H Q => by
  rintro ⟨φ, G, O, ρ, T, t, h⟩
  exact Pc.now h t.s .nil
theorem pa_cons' {es : List Expr} {as : CA} (ha : PE X a (RE ca C ea)) (hr : PA X es (RA ca C as)) (hs : starEach (a :: es) X.env = (false, eval a X.env) :: starEach es X.env) : PA X (a :: es) (RA ca C (.cons ea as)) := by
  refine (pa_cons ha hr hs).imp ?_
  rintro σ H Q ⟨φ, G, O, ρ, T, t, h⟩
  rw [denA] at h
  refine ⟨φ, G, O, ρ, T, t, Pc.imp h.bind ?_⟩
  rintro x H1 ⟨φ1, G1, T1, u, f1, s1, r1, h1⟩
  refine ⟨φ1, G1, O, ρ, T1, ⟨s1, f1.lo t.l, t.n⟩, Pc.imp h1.bind ?_⟩
  rintro y H2 ⟨φ2, G2, T2, w, f2, s2, r2, h2⟩
  exact Pc.now h2 s2 (.cons (f2.u r1) r2)
theorem pe_v {i : Nat} {x : Str} (hN : X.N[i]? = some x) (hv : Vis X.env.scope x) (hd : (x == ("__debug__" : Str)) = false) (hcd : (x == ("__classdict__" : Str)) = false) : PE X (.Name x pos) (RE ca C (.v i)) := by
  refine PE.imp (pe_var hN hv hd hcd) ?_
  rintro σ H Q ⟨φ, G, O, ρ, T, t, h⟩
  rw [den] at h
  cases hi : ρ[i]? with
  | none => rw [hi] at h; exact h.elim
  | some o =>
    cases o with
    | none => rw [hi] at h; exact h.elim
    | some u =>
      rw [hi] at h
      obtain ⟨v, h1, h2⟩ := t.l i u hi
      exact ⟨v, h1, Pc.now h t.s h2⟩
theorem pe_c {x : D} {v : V} (hv : ∀ G, Rp G v x) (he : PE X e (tC v)) : PE X e (RE ca C (.c x)) := he.imp fun σ H Q => by
  rintro ⟨φ, G, O, ρ, T, t, h⟩
  exact Pc.now h t.s (.d (hv G))
theorem pe_bin {o : Op} {op : Operator} {l : Bool} (ho : OpR X (binaryOp op) (rOp2 ca fun O x y T => binU O l o x y T)) (ha : PE X a (RE ca C ea)) (hb : PE X b (RE ca C eb)) : PE X (.BinOp a op b pos) (RE ca C (.bin l o ea eb)) :=
  (pe_op ho ha hb).imp (to_op2 fun _ _ _ => by rw [den])
/-- a comparison's answer -/
def cmpR (o : COp) : Cs → U → U → Cs → R U := fun O x y T => match cmpU O o x y T with
  | some k => .ok (.d (.bool k)) T
  | none => .fail
theorem pe_cm {o : COp} {op : CmpOp} (ho : OpR X (compareOp op) (rOp2 ca (cmpR o))) (ha : PE X a (RE ca C ea)) (hb : PE X b (RE ca C eb)) (hm : behindInMarks op b = false) : PE X (.Compare a [op] [b] pos) (RE ca C (.cmp o ea eb)) :=
  (pe_cmpR ho ha hb hm).imp (to_op2 fun _ _ _ => by rw [den] <;> rfl)
theorem asB_bl {G : Hp} {v : V} {u : U} {k : Bool} (e : asB u = some k) (r : RpU G φ v u) : v = .bl k := by
  unfold asB at e
  split at e
  · cases e
    cases r with
    | d r => cases r; rfl
  · cases e
theorem asB_of {u : U} {k : Bool} (e : asB u = some k) : u = .d (.bool k) := by
  unfold asB at e
  split at e
  · cases e; rfl
  · cases e
theorem Pc.tst {r : R U} {Q : Bool → Hp → Prop} (h : Pc ca rB φ G O (Y.tst r) Q) : Pc ca rU φ G O r (fun v H' => ∃ k, v = .bl k ∧ Q k H') := by
  cases r with
  | ok u T =>
    intro v φ2 G2 H2 f2 s r
    have h : Pc ca rB φ G O (R.ofO T (asB u)) Q := h
    cases e : asB u with
    | none => rw [e] at h; exact h.elim
    | some k =>
      rw [e] at h
      exact ⟨k, asB_bl e r, h k φ2 G2 H2 f2 s rfl⟩
  | exc => exact h
  | fail => exact h
/-- a test by the value -/
theorem to_tst {c : CE} : ∀ σ H Q, RT ca C c σ H Q → tTest (RE ca C c) σ H Q := by
  rintro σ H Q ⟨φ, G, O, ρ, T, t, h⟩
  exact ⟨φ, G, O, ρ, T, t, h.tst⟩
theorem pt_e {c : CE} (h : PE X e (RE ca C c)) (he : ∀ whole, isTrue e X.env whole = (do let v ← whole; standAt e.pos; holding [v] (truthy v))) : PT X e (RT ca C c) :=
  (pt_val h he).imp to_tst
theorem pt_cm {o : COp} {op : CmpOp} (ho : OpR X (compareOp op) (rOp2 ca (cmpR o))) (ha : PE X a (RE ca C ea)) (hb : PE X b (RE ca C eb)) (hm : behindInMarks op b = false) : PT X (.Compare a [op] [b] pos) (RT ca C (.cmp o ea eb)) :=
  (pt_cmpR ho ha hb hm).imp fun σ H Q h => by
    obtain ⟨φ, G, O, ρ, T, t, h⟩ := to_tst σ H Q h
    exact to_op2 (fun _ _ _ => by rw [den] <;> rfl) σ H _ ⟨φ, G, O, ρ, T, t, h⟩
/-- two comparisons -/
theorem to_chain {o o' : COp} : ∀ σ H Q, RE ca C (.chain o o' ea eb ec) σ H Q → tChain (rOp2 ca (cmpR o)) (rOp2 ca (cmpR o')) (RE ca C ea) (RE ca C eb) (RE ca C ec) σ H Q := by
  rintro σ H Q ⟨φ, G, O, ρ, T, t, h⟩
  rw [den] at h
  refine ⟨φ, G, O, ρ, T, t, Pc.imp h.bind ?_⟩
  rintro x H1 ⟨φ1, G1, T1, u, f1, s1, r1, h1⟩
  refine ⟨φ1, G1, O, ρ, T1, ⟨s1, f1.lo t.l, t.n⟩, Pc.imp h1.bind ?_⟩
  rintro y H2 ⟨φ2, G2, T2, w, f2, s2, r2, h2⟩
  refine ⟨φ2, G2, O, T2, u, w, s2, f2.u r1, r2, ?_⟩
  unfold cmpR
  cases e : cmpU O o u w T2 with
  | none => rw [e] at h2; exact h2
  | some k =>
    rw [e] at h2
    intro v φ3 G3 H3 f3 s3 r3
    cases r3 with
    | d r3 =>
      cases r3
      refine ⟨k, rfl, ?_⟩
      cases k with
      | false => exact Pc.now (h2.later f3) s3 (.d (.bl _))
      | true =>
        rw [if_pos rfl]
        refine ⟨φ3, G3, O, ρ, T2, ⟨s3, (f1.trans (f2.trans f3)).lo t.l, t.n⟩, Pc.imp (h2.later f3).bind ?_⟩
        rintro z H4 ⟨φ4, G4, T4, w4, f4, s4, r4, h4⟩
        exact ⟨φ4, G4, O, T4, w, w4, s4, (f3.trans f4).u r2, r4, h4⟩
theorem pe_ch {o o' : COp} {op op' : CmpOp} (ho : OpR X (compareOp op) (rOp2 ca (cmpR o))) (ho' : OpR X (compareOp op') (rOp2 ca (cmpR o'))) (ha : PE X a (RE ca C ea)) (hb : PE X b (RE ca C eb)) (he : PE X e (RE ca C ec)) (hm : lastMarks [op, op'] [b, e] = false) :
    PE X (.Compare a [op, op'] [b, e] pos) (RE ca C (.chain o o' ea eb ec)) := (pe_chain ho ho' ha hb he hm).imp to_chain
theorem pt_ch {o o' : COp} {op op' : CmpOp} (ho : OpR X (compareOp op) (rOp2 ca (cmpR o))) (ho' : OpR X (compareOp op') (rOp2 ca (cmpR o'))) (ha : PE X a (RE ca C ea)) (hb : PE X b (RE ca C eb)) (he : PE X e (RE ca C ec)) (hm : lastMarks [op, op'] [b, e] = false) :
    PT X (.Compare a [op, op'] [b, e] pos) (RT ca C (.chain o o' ea eb ec)) := (pt_chain ho ho' ha hb he hm).imp fun σ H Q h => by
    obtain ⟨φ, G, O, ρ, T, t, h⟩ := to_tst σ H Q h
    exact to_chain σ H _ ⟨φ, G, O, ρ, T, t, h⟩
/-- a test, then one of two -/
theorem Pc.br {δ : Type} {rel2 : Hp → List Addr → δ → γ → Prop} {Q : δ → Hp → Prop} {r : R U} {k : Bool → Cs → R γ} (h : Pc ca rel2 φ G O (r.bind fun x T => brB (asB x) (k true T) (k false T)) Q) :
    Pc ca rB φ G O (Y.tst r) (fun b H' => Mid ca rB φ G O b H' fun a T' φ' G' => Pc ca rel2 φ' G' O (k a T') Q) := by
  cases r with
  | ok u T =>
    have h : Pc ca rel2 φ G O (brB (asB u) (k true T) (k false T)) Q := h
    show Pc ca rB φ G O (R.ofO T (asB u)) _
    cases e : asB u with
    | none => rw [e] at h; exact h
    | some b =>
      rw [e] at h
      intro b' φ2 G2 H2 f2 s r
      have r : b' = b := r
      subst r
      refine ⟨φ2, G2, T, b', f2, s, rfl, ?_⟩
      cases b' <;> exact h.later f2
  | exc => exact h
  | fail => exact h
theorem Pc.keepBr {δ : Type} {rel2 : Hp → List Addr → δ → γ → Prop} {Q : δ → Hp → Prop} {φ1 : List Addr} {G1 : Hp} {r : R U} {k : Bool → Cs → R γ} (h : Pc ca rel2 φ1 G1 O (r.bind fun x T => brB (asB x) (k true T) (k false T)) Q) :
    Pc ca rB φ G O (Y.tst r) (fun b H' => Mid ca rB φ G O b H' fun a T' φ' G' => Pc ca rel2 φ1 G1 O (k a T') Q) := by
  cases r with
  | ok u T =>
    have h : Pc ca rel2 φ1 G1 O (brB (asB u) (k true T) (k false T)) Q := h
    show Pc ca rB φ G O (R.ofO T (asB u)) _
    cases e : asB u with
    | none => rw [e] at h; exact h
    | some b =>
      rw [e] at h
      intro b' φ2 G2 H2 f2 s r
      have r : b' = b := r
      subst r
      refine ⟨φ2, G2, T, b', f2, s, rfl, ?_⟩
      cases b' <;> exact h
  | exc => exact h
  | fail => exact h
theorem to_and : ∀ σ H Q, RE ca C (.and ea eb) σ H Q → tAndV (RE ca C ea) (RE ca C eb) σ H Q := by
  rintro σ H Q ⟨φ, G, O, ρ, T, t, h⟩
  rw [den] at h
  refine ⟨φ, G, O, ρ, T, t, Pc.imp (Pc.tst (Pc.br (k := fun b T => if b = true then den C O ρ eb T else .ok (.d (.bool false)) T) h)) ?_⟩
  rintro x H1 ⟨k, rfl, φ1, G1, T1, u, f1, s1, r1, h1⟩
  have r1 : k = u := r1
  subst r1
  refine ⟨k, rfl, ?_⟩
  cases k with
  | true => exact ⟨φ1, G1, O, ρ, T1, ⟨s1, f1.lo t.l, t.n⟩, h1⟩
  | false => exact Pc.now h1 s1 (.d (.bl _))
theorem to_or : ∀ σ H Q, RE ca C (.or ea eb) σ H Q → tOrV (RE ca C ea) (RE ca C eb) σ H Q := by
  rintro σ H Q ⟨φ, G, O, ρ, T, t, h⟩
  rw [den] at h
  refine ⟨φ, G, O, ρ, T, t, Pc.imp (Pc.tst (Pc.br (k := fun b T => if b = true then .ok (.d (.bool true)) T else den C O ρ eb T) h)) ?_⟩
  rintro x H1 ⟨k, rfl, φ1, G1, T1, u, f1, s1, r1, h1⟩
  have r1 : k = u := r1
  subst r1
  refine ⟨k, rfl, ?_⟩
  cases k with
  | false => exact ⟨φ1, G1, O, ρ, T1, ⟨s1, f1.lo t.l, t.n⟩, h1⟩
  | true => exact Pc.now h1 s1 (.d (.bl _))
theorem to_not : ∀ σ H Q, RE ca C (.not ea) σ H Q → tNotV (RE ca C ea) σ H Q := by
  rintro σ H Q ⟨φ, G, O, ρ, T, t, h⟩
  rw [den] at h
  have h' : Pc ca rU φ G O ((den C O ρ ea T).bind fun x T => brB (asB x) (.ok (.d (.bool false)) T) (.ok (.d (.bool true)) T)) Q := by
    cases e : den C O ρ ea T with
    | ok u T =>
      rw [e] at h
      show Pc ca rU φ G O (brB (asB u) (.ok (.d (.bool false)) T) (.ok (.d (.bool true)) T)) Q
      have h : Pc ca rU φ G O (match asB u with | some b => .ok (.d (.bool (!b))) T | none => .fail) Q := h
      cases e : asB u with
      | none => rw [e] at h; exact h
      | some b => rw [e] at h; cases b <;> exact h
    | exc => rw [e] at h; exact h
    | fail => rw [e] at h; exact h
  refine ⟨φ, G, O, ρ, T, t, Pc.imp (Pc.tst (Pc.br (k := fun b T => (.ok (.d (.bool (!b))) T : R U)) h')) ?_⟩
  rintro x H1 ⟨k, rfl, φ1, G1, T1, u, f1, s1, r1, h1⟩
  have r1 : k = u := r1
  subst r1
  exact ⟨k, rfl, Pc.now h1 s1 (.d (.bl _))⟩
theorem tst_bind {r : R U} {k : U → Cs → R U} : tst (r.bind k) = r.bind fun u T => tst (k u T) := by cases r <;> rfl
theorem tst_br {x : Option Bool} {p q : R U} : tst (brB x p q) = brB x (tst p) (tst q) := by
  cases x with
  | none => rfl
  | some b => cases b <;> rfl
theorem to_andT : ∀ σ H Q, RT ca C (.and ea eb) σ H Q → tAnd (RT ca C ea) (RT ca C eb) σ H Q := by
  rintro σ H Q ⟨φ, G, O, ρ, T, t, h⟩
  rw [den, tst_bind] at h
  simp only [tst_br] at h
  refine ⟨φ, G, O, ρ, T, t, Pc.imp (Pc.br (k := fun b T => if b = true then tst (den C O ρ eb T) else tst (.ok (.d (.bool false)) T)) h) ?_⟩
  rintro k H1 ⟨φ1, G1, T1, u, f1, s1, r1, h1⟩
  have r1 : k = u := r1
  subst r1
  cases k with
  | true => exact ⟨φ1, G1, O, ρ, T1, ⟨s1, f1.lo t.l, t.n⟩, h1⟩
  | false => exact Pc.now (a := false) h1 s1 rfl
theorem to_orT : ∀ σ H Q, RT ca C (.or ea eb) σ H Q → tOr (RT ca C ea) (RT ca C eb) σ H Q := by
  rintro σ H Q ⟨φ, G, O, ρ, T, t, h⟩
  rw [den, tst_bind] at h
  simp only [tst_br] at h
  refine ⟨φ, G, O, ρ, T, t, Pc.imp (Pc.br (k := fun b T => if b = true then tst (.ok (.d (.bool true)) T) else tst (den C O ρ eb T)) h) ?_⟩
  rintro k H1 ⟨φ1, G1, T1, u, f1, s1, r1, h1⟩
  have r1 : k = u := r1
  subst r1
  cases k with
  | false => exact ⟨φ1, G1, O, ρ, T1, ⟨s1, f1.lo t.l, t.n⟩, h1⟩
  | true => exact Pc.now (a := true) h1 s1 rfl
theorem to_notT : ∀ σ H Q, RT ca C (.not ea) σ H Q → tNot (RT ca C ea) σ H Q := by
  rintro σ H Q ⟨φ, G, O, ρ, T, t, h⟩
  rw [den, tst_bind] at h
  have h' : Pc ca rB φ G O ((den C O ρ ea T).bind fun x T => brB (asB x) (.ok false T) (.ok true T)) Q := by
    cases e : den C O ρ ea T with
    | ok u T =>
      rw [e] at h
      show Pc ca rB φ G O (brB (asB u) (.ok false T) (.ok true T)) Q
      have h : Pc ca rB φ G O (tst (match asB u with | some b => .ok (.d (.bool (!b))) T | none => .fail)) Q := h
      cases e : asB u with
      | none => rw [e] at h; exact h
      | some b => rw [e] at h; cases b <;> exact h
    | exc => rw [e] at h; exact h
    | fail => rw [e] at h; exact h
  refine ⟨φ, G, O, ρ, T, t, Pc.imp (Pc.br (k := fun b T => (.ok (!b) T : R Bool)) h') ?_⟩
  rintro k H1 ⟨φ1, G1, T1, u, f1, s1, r1, h1⟩
  have r1 : k = u := r1
  subst r1
  exact Pc.now h1 s1 rfl
theorem to_ite {et : CE} : ∀ σ H Q, RE ca C (.ite et ea eb) σ H Q → tIf (RT ca C et) (RE ca C ea) (RE ca C eb) σ H Q := by
  rintro σ H Q ⟨φ, G, O, ρ, T, t, h⟩
  rw [den] at h
  refine ⟨φ, G, O, ρ, T, t, Pc.imp (Pc.br (k := fun b T => if b = true then den C O ρ ea T else den C O ρ eb T) h) ?_⟩
  rintro k H1 ⟨φ1, G1, T1, u, f1, s1, r1, h1⟩
  have r1 : k = u := r1
  subst r1
  cases k with
  | true => exact ⟨φ1, G1, O, ρ, T1, ⟨s1, f1.lo t.l, t.n⟩, h1⟩
  | false => exact ⟨φ1, G1, O, ρ, T1, ⟨s1, f1.lo t.l, t.n⟩, h1⟩
theorem sizeOk_le {n : Nat} (h : sizeOk n = true) : n ≤ 1000000 := of_decide_eq_true h
theorem sz_le {n : Nat} (h : n ≤ 1000000) : n ≤ sizeLine := Nat.le_trans h (by decide)
theorem sz_lt {n : Nat} (h : n ≤ 1000000) : n < sizeLine := Nat.lt_of_le_of_lt h (by decide)
/-- a new tuple at p -/
theorem mkT_ok {vs : List V} {us : List U} {T : Cs} {p : Addr} {Q : VK} (h : Pc ca rU φ G O (.ok (mkT us) T) Q) (s : Sd ca φ G H (O ++ T)) (r : RpUs G φ vs us) (np : H p = none) : Q (.ref p) (upd H p (.tup vs)) := by
  have f : Fut φ G φ (upd G p (.tup vs)) := s.knowF np
  refine h (.ref p) φ _ _ f (s.know np) ?_
  show RpU _ _ _ (mkT us)
  unfold mkT
  cases e : allD us with
  | none => exact .tup upd_same (f.us r)
  | some ds => exact .d (.tup upd_same ((f.us r).down e))
/-- a new list at p -/
theorem mkL_ok {l : Bool} {vs : List V} {us : List U} {T : Cs} {p : Addr} {Q : VK} (h : Pc ca rU φ G O (mkL O l us T) Q) (s : Sd ca φ G H (O ++ T)) (r : RpUs G φ vs us) (np : H p = none) : Q (.ref p) (upd H p (.lst vs)) := by
  unfold mkL at h
  cases l with
  | true =>
    rw [if_pos rfl] at h
    have c : CellOk ca G (φ ++ [p]) (upd H p (.lst vs)) p (cellOf us) := by
      unfold cellOf
      cases e : allD us with
      | none => exact ⟨vs, upd_same, Sd.newF.us r⟩
      | some ds => exact ⟨vs, upd_same, r.down e⟩
    have s' := s.cellNew np c
    rw [List.append_assoc] at s'
    refine h (.ref p) (φ ++ [p]) G _ Sd.newF s' (.ref ?_)
    have e := s.len
    rw [List.length_append] at e
    rw [← e]
    simp
  | false =>
    rw [if_neg Bool.false_ne_true] at h
    cases e : allD us with
    | none => rw [e] at h; exact h.elim
    | some ds =>
      rw [e] at h
      have f : Fut φ G φ (upd G p (.lst vs)) := s.knowF np
      exact h (.ref p) φ _ _ f (s.know np) (.d (.lst (.inl upd_same) ((f.us r).down e)))
theorem pe_tu {es : List Expr} {as : CA} {k : Nat} (h : PA X es (RA ca C as)) : PE X (.Tuple es k pos) (RE ca C (.tup as)) := (pe_tup h).imp (by
  rintro σ H Q ⟨φ, G, O, ρ, T, t, h⟩
  rw [den] at h
  refine ⟨φ, G, O, ρ, T, t, Pc.imp h.bind ?_⟩
  rintro x H1 ⟨φ1, G1, T1, u, f1, s1, r1, h1⟩
  split at h1
  · rename_i hz
    refine ⟨sz_le (by rw [RpUs.length r1]; exact sizeOk_le hz), fun p np => mkT_ok h1 s1 r1 np⟩
  · exact h1.elim)
theorem pe_li {es : List Expr} {as : CA} {l : Bool} (h : PA X es (RA ca C as)) : PE X (.List es pos) (RE ca C (.lst l as)) := (pe_lst h).imp (by
  rintro σ H Q ⟨φ, G, O, ρ, T, t, h⟩
  rw [den] at h
  refine ⟨φ, G, O, ρ, T, t, Pc.imp h.bind ?_⟩
  rintro x H1 ⟨φ1, G1, T1, u, f1, s1, r1, h1⟩
  split at h1
  · rename_i hz
    refine ⟨sz_le (by rw [RpUs.length r1]; exact sizeOk_le hz), fun p np => mkL_ok h1 s1 r1 np⟩
  · exact h1.elim)
theorem pe_sub {ix : CE} (hi : IxR X (rOp2 ca fun O x y T => R.ofO T (ixU O x y T))) (ha : PE X a (RE ca C ea)) (hb : PE X b (RE ca C eb)) (hs : PlainIx b) : PE X (.Subscript a b pos) (RE ca C (.ix ea eb)) :=
  (pe_ix hi ha hb hs).imp (to_op2 fun _ _ _ => by rw [den])
end
theorem tuple_mul1 (l : Addr) (items : Array Value) (n : Nat) (dd : Option Addr) (sl : Array (Option Value)) (u : Tok) :
    Meets (Builtin.«tuple.__mul__» ⟨[.ref l, .int 1 u], []⟩) (fun _ R s => s.heap.get? l = some { cls := .type "tuple", dict := dd, data := .seq items n, slots := sl } ∧ R (.ok (.ret (Value.ref l))) s) :=
  .of_wp fun prog w A R s h => by
    obtain ⟨hp, g, d, tk, os⟩ := s
    obtain ⟨hl, h⟩ := h
    have f1 := AutoSeq1.idx_int
    have c0 : (decide ((1 : Int) < -(2 ^ 63)) || decide ((1 : Int) ≥ 2 ^ 63)) = false := by decide +kernel
    have c1 : (items.isEmpty || (1 : Int) == 1) = true := by simp
    wp_walk using wpAny_loadPart' hl
    repeat (first
      | (refine wpAny_ite_false (decide_eq_false (by rw [c0]; exact Bool.false_ne_true)) ?_; wp_walk using wpAny_loadPart' hl)
      | (refine wpAny_ite_true (decide_eq_true (by rw [c1])) ?_; wp_walk using wpAny_loadPart' hl))
    exact ⟨_, rfl, h⟩
def rRep1 (K : PySem.W.Frag) : R2 := fun x y H Q => ∃ l xs, x = .ref l ∧ y = .int 1 ∧ SqT K H l xs ∧ Q (.ref l) H
theorem op_rep1 {X : Cx} : OpR X (binaryOp .Mult) (rRep1 X.K) := by
  intro pins s σ H x y v u Q I rx ry h
  obtain ⟨l, xs, rfl, rfl, hT, q⟩ := h
  cases rx
  obtain ⟨t, rfl⟩ := ry
  obtain ⟨its, r, ⟨⟨cls, dd, data, sl⟩, ho, hc, n, hd⟩, hs⟩ := I.tuple hT
  simp only at hc hd
  subst hc hd
  refine wpAny_binaryOp_repeat_ref (T := "tuple") (U := "int") (by decide) ⟨_, ho, rfl⟩ (fun s' => typeIs_int s' 1 t) noFill_tuple_mul F.fills_int_mul F.slot_int_rmul repeat_tuple F.slot_int_index.lookup
    (call_meets F.slot_int_rmul (typeIs_int s 1 t) F.entry_int_rmul (F.args_int_rmul_2 _ _) (int_rmul_tuple 1 t l its.toArray n dd sl)
      ⟨ho, rfl, ⟨_, ho, rfl⟩, call_meets F.slot_tuple_mul ⟨_, ho, rfl⟩ F.entry_tuple_mul (F.args_tuple_mul_2 _ _) (tuple_mul1 l its.toArray n dd sl t) ⟨ho, ?_⟩⟩)
  exact ⟨.ref l, _, I, rfl, q⟩
end Y

set_option Elab.async false
set_option linter.all false
set_option maxRecDepth 100000
set_option maxHeartbeats 1000000
namespace Y
section
open PySem PySem.Spec PyProof.Rows L2
variable {X : Cx} {pins : List (Addr × Obj)} {σ : L2.St} {H : Hp} {s : Shared} {l : Addr} {xs : List V}
theorem lstR (I : Inv X pins σ H s) (hH : Rd H l (.lst xs)) : xs.length ≤ sizeLine ∧ ∃ (its : List Value) (n : Nat), Vals xs its ∧ xs.length = its.length ∧ s.heap.get? l = some { cls := .type "list", data := .seq its.toArray n } := by
  obtain ⟨z, its, n, r, e⟩ := hH.ok I.hok
  exact ⟨z, its, n, r, r.length, e⟩
def rCatR : R2 := fun x y H Q => ∃ l b xs zs, x = .ref l ∧ y = .ref b ∧ Rd H l (.lst xs) ∧ Rd H b (.lst zs) ∧ xs.length + zs.length ≤ sizeLine ∧ ∀ p, H p = none → Q (.ref p) (upd H p (.lst (xs ++ zs)))
def rRepR : R2 := fun x y H Q => ∃ l k xs, x = .ref l ∧ y = .int k ∧ Rd H l (.lst xs) ∧ -(2 ^ 63) ≤ k ∧ k < 2 ^ 63 ∧ xs.length * k.toNat ≤ sizeLine ∧
  ∀ p, H p = none → Q (.ref p) (upd H p (.lst (List.replicate k.toNat xs).flatten))
def rExtendR : V → List V → Hp → VK → Prop := fun x vs H Q => ∃ l b xs zs, x = .ref l ∧ vs = [.ref b] ∧ H l = some (.lst xs) ∧ Rd H b (.lst zs) ∧ xs.length + zs.length ≤ sizeLine ∧ Q .non (upd H l (.lst (xs ++ zs)))
theorem op_catR : OpR X (binaryOp .Add) rCatR := by
  intro pins s σ H x y v u Q I rx ry h
  obtain ⟨l, b, xs, zs, rfl, rfl, hH, hB, hz, q⟩ := h
  cases rx
  cases ry
  obtain ⟨z, its, n, r, hl, e⟩ := lstR I hH
  obtain ⟨z2, its2, n2, r2, hl2, e2⟩ := lstR I hB
  refine PySem.P.add_list e e2 ?_ (by rw [List.size_toArray, List.size_toArray]; omega)
  have ea : its.toArray ++ its2.toArray = (its ++ its2).toArray := by simp
  rw [ea]
  exact ⟨.ref _, _, I.lnew (t' := s.toks) (r.append r2) (by rw [List.length_append]; omega), rfl, q _ I.fresh⟩
theorem op_repR : OpR X (binaryOp .Mult) rRepR := by
  intro pins s σ H x y v u Q I rx ry h
  obtain ⟨l, k, xs, rfl, rfl, hH, h1, h2, hz, q⟩ := h
  cases rx
  obtain ⟨t, rfl⟩ := ry
  obtain ⟨z, its, n, r, hl, e⟩ := lstR I hH
  have hlen : its.toArray.size * k.toNat ≤ sizeLine := by rw [List.size_toArray, ← hl]; exact hz
  have hcap : ¬ its.toArray.size * k.toNat > (2 ^ 63 - 1) / 8 := by
    have : (sizeLine : Nat) ≤ (2 ^ 63 - 1) / 8 := by decide
    omega
  have hfit : ¬ (!Builtin.List.listFitsIndex k) = true := by
    rw [fitsIndex_both h1 h2]
    exact Bool.false_ne_true
  have hlong : ¬ Builtin.List.listTooLong (its.toArray.size * k.toNat) = true := by
    rw [notLongL hlen]
    exact Bool.false_ne_true
  have hnew : List.foldl (fun x1 x2 => x1 ++ x2) #[] (List.replicate (if its.toArray.isEmpty = true then 0 else k.toNat) its.toArray) = (List.replicate k.toNat its).flatten.toArray := by
    have f0 : ∀ m : Nat, List.foldl (fun x1 x2 => x1 ++ x2) #[] (List.replicate m its.toArray) = (List.replicate m its).flatten.toArray := fun m => by
      have := foldl_rep its m []
      rw [List.nil_append] at this
      exact this
    rw [f0]
    cases its with
    | nil => simp
    | cons a r' => rw [if_neg (by simp)]
  refine wpAny_binaryOp_repeat_ref (T := "list") (U := "int") (by decide) ⟨_, e, rfl⟩ (fun s' => typeIs_int s' k t) noFill_list_mul F.fills_int_mul F.slot_int_rmul repeat_list F.slot_int_index.lookup
    (call_meets F.slot_int_rmul (typeIs_int s k t) F.entry_int_rmul (F.args_int_rmul_2 _ _) (int___rmul___int_list k t l its.toArray n)
      ⟨e, rfl, ⟨_, e, rfl⟩, call_meets F.slot_list_mul ⟨_, e, rfl⟩ F.entry_list_mul (F.args_list_mul_2 _ _) (AutoListH.list___mul___list_int_3 l its.toArray n k t hfit hcap hlong) ⟨e, ?_⟩⟩)
  rw [hnew]
  exact ⟨.ref _, _, I.lnew (t' := s.toks) (r.rep k.toNat) (by rw [PyProof.Rows.lm_len_rep_flat, Nat.mul_comm]; exact hz), rfl, q _ I.fresh⟩
theorem mt_extendR : MtM X "list.extend" rExtendR := by
  intro pins s σ H x vs v us Q I rx rv h
  obtain ⟨l, b, xs, zs, rfl, rfl, hH, hB, hz, q⟩ := h
  cases rx
  obtain ⟨u, rfl, ru⟩ := rv.one
  cases ru
  obtain ⟨z, its, n, r, hl, e⟩ := I.lstM hH
  obtain ⟨z2, its2, n2, r2, hl2, e2⟩ := lstR I hB
  have hsz : its.toArray.size + its2.toArray.size ≤ sizeLine := by rw [List.size_toArray, List.size_toArray]; omega
  have hlong : ¬ (!its.toArray.isEmpty && Builtin.List.listTooLong (its.toArray.size + its2.toArray.size)) = true := by
    rw [notLongL hsz, Bool.and_false]
    exact Bool.false_ne_true
  refine call_meets F.slot_list_extend ⟨_, e, rfl⟩ F.entry_list_extend (F.args_list_extend_2 _ _)
    (AutoSeq1.list_extend_list_list_0 l its.toArray n b its2.toArray n2 hlong (by rw [List.size_toArray]; omega) (by omega)) ⟨e, e2, ?_⟩
  refine ⟨.non, _, I.lset (its' := its ++ its2) hH e (by simp) (r.append r2) ?_, rfl, q⟩
  rw [List.length_append]
  omega
end
open PySem PySem.Spec L2
section
variable {ca : Nat → Addr} {φ φ' : List Addr} {G G' H : Hp} {O T : Cs} {X : Cx} {K : PySem.W.Frag}
theorem cell_at (s : Sd ca φ G H (O ++ T)) {i : Nat} {a : Addr} {c : Cell} (hi : φ[i]? = some a) (e : getC O T i = some c) : CellOk ca G φ H a c := by
  rw [getC_eq] at e
  exact s.cell i a c hi e
theorem seqL_ok (s : Sd ca φ G H (O ++ T)) {u : U} {v : V} {us : List U} (r : RpU G φ v u) (e : seqL O T u = some us) : ∃ a vs, v = .ref a ∧ Rd H a (.lst vs) ∧ RpUs G φ vs us := by
  unfold seqL at e
  split at e
  · cases e
    cases r with
    | d r => cases r with | lst h1 h2 => exact ⟨_, _, rfl, s.ex.rd h1, h2.up⟩
  · cases r with
    | ref hi =>
      split at e
      · rename_i hc
        cases e
        obtain ⟨vs, h1, h2⟩ := cell_at s hi hc
        exact ⟨_, vs, rfl, .inl h1, h2.up⟩
      · rename_i hc
        cases e
        obtain ⟨vs, h1, h2⟩ := cell_at s hi hc
        exact ⟨_, vs, rfl, .inl h1, h2⟩
      · cases e
  · cases e
theorem seqT_okG {u : U} {v : V} {us : List U} (r : RpU G φ v u) (e : seqT u = some us) : ∃ a vs, v = .ref a ∧ G a = some (.tup vs) ∧ RpUs G φ vs us := by
  unfold seqT at e
  split at e
  · cases e
    cases r with
    | d r => cases r with | tup h1 h2 => exact ⟨_, _, rfl, h1, h2.up⟩
  · cases e
    cases r with
    | tup h1 h2 => exact ⟨_, _, rfl, h1, h2⟩
  · cases e
theorem seqT_ok (s : Sd ca φ G H (O ++ T)) {u : U} {v : V} {us : List U} (r : RpU G φ v u) (e : seqT u = some us) : ∃ a vs, v = .ref a ∧ H a = some (.tup vs) ∧ RpUs G φ vs us := by
  obtain ⟨a, vs, h1, h2, h3⟩ := seqT_okG r e
  exact ⟨a, vs, h1, s.ex _ _ h2, h3⟩
theorem mkT_rp {a : Addr} {vs : List V} {us : List U} (h : G a = some (.tup vs)) (r : RpUs G φ vs us) : RpU G φ (.ref a) (mkT us) := by
  unfold mkT
  cases e : allD us with
  | none => exact .tup h r
  | some ds => exact .d (.tup h (r.down e))
theorem seqA_ok (s : Sd ca φ G H (O ++ T)) {u : U} {v : V} {us : List U} (r : RpU G φ v u) (e : seqA O T u = some us) : ∃ a vs, v = .ref a ∧ (Rd H a (.lst vs) ∨ H a = some (.tup vs)) ∧ RpUs G φ vs us := by
  unfold seqA at e
  split at e
  · rename_i h
    cases e
    obtain ⟨a, vs, h1, h2, h3⟩ := seqL_ok s r h
    exact ⟨a, vs, h1, .inl h2, h3⟩
  · obtain ⟨a, vs, h1, h2, h3⟩ := seqT_ok s r e
    exact ⟨a, vs, h1, .inr h2, h3⟩
theorem rp_int {v : V} {i : Int} (r : RpU G φ v (.d (.int i))) : v = .int i := by cases r with | d r => cases r; rfl
theorem rp_str {v : V} {i : Str} (r : RpU G φ v (.d (.str i))) : v = .str i := by cases r with | d r => cases r; rfl
theorem rp_bl {v : V} {i : Bool} (r : RpU G φ v (.d (.bool i))) : v = .bl i := by cases r with | d r => cases r; rfl
theorem rp_non {v : V} (r : RpU G φ v (.d .none)) : v = .non := by cases r with | d r => cases r; rfl
def opS : Op → Operator
  | .add => .Add | .sub => .Sub | .mul => .Mult | .fdiv => .FloorDiv | .mod => .Mod | .pow => .Pow | .shl => .LShift | .shr => .RShift | .band => .BitAnd | .bor => .BitOr | .bxor => .BitXor
def rIntOp (o : Op) : R2 := fun x y H Q => ∃ i j k, x = .int i ∧ y = .int j ∧ binI o i j = some k ∧ Q (.int k) H
theorem big_log {j : Int} (h0 : 0 < j) (h : j < 1000000000000000000000000000000000000000000000000000000000000) : j.natAbs.log2 < 9000 := by
  have h1 : j.natAbs < 2 ^ 200 := by
    have : j.natAbs < 1000000000000000000000000000000000000000000000000000000000000 := by omega
    exact Nat.lt_trans this (by decide)
  have h2 : j.natAbs ≠ 0 := by omega
  have := (Nat.log2_lt h2).mpr h1
  omega
theorem op_int (o : Op) : OpR X (binaryOp (opS o)) (rIntOp o) := by
  rintro pins s σ H x y v u Q I rx ry ⟨i, j, k, rfl, rfl, e, q⟩
  cases o with
  | add => cases e; exact op_add pins s σ H _ _ v u Q I rx ry ⟨i, j, rfl, rfl, q⟩
  | sub => cases e; exact op_sub pins s σ H _ _ v u Q I rx ry ⟨i, j, rfl, rfl, q⟩
  | band => cases e; exact op_and pins s σ H _ _ v u Q I rx ry ⟨i, j, rfl, rfl, q⟩
  | bor => cases e; exact op_or pins s σ H _ _ v u Q I rx ry ⟨i, j, rfl, rfl, q⟩
  | bxor => cases e; exact op_xor pins s σ H _ _ v u Q I rx ry ⟨i, j, rfl, rfl, q⟩
  | mul =>
    simp only [binI] at e
    split at e
    · rename_i h
      cases e
      simp only [mulOk, Bool.or_eq_true, Bool.and_eq_true, decide_eq_true_eq] at h
      rcases h with h | h
      · refine op_mul pins s σ H _ _ v u Q I rx ry ⟨i, j, rfl, rfl, ?_, q⟩
        unfold CMul
        omega
      · refine op_mulX pins s σ H _ _ v u Q I rx ry ⟨i, j, rfl, rfl, ?_, q⟩
        unfold CMulX
        omega
    · cases e
  | fdiv =>
    simp only [binI] at e
    split at e
    · rename_i h
      cases e
      exact op_fdivW pins s σ H _ _ v u Q I rx ry ⟨i, j, rfl, rfl, ⟨h.1, big_log h.1 h.2⟩, q⟩
    · cases e
  | mod =>
    simp only [binI] at e
    split at e
    · rename_i h
      cases e
      exact op_mod pins s σ H _ _ v u Q I rx ry ⟨i, j, rfl, rfl, h, q⟩
    · cases e
  | pow =>
    simp only [binI] at e
    split at e
    · rename_i h
      cases e
      exact op_pow pins s σ H _ _ v u Q I rx ry ⟨i, j, rfl, rfl, ⟨h.1, by omega, by omega⟩, q⟩
    · cases e
  | shl =>
    simp only [binI] at e
    split at e
    · rename_i h
      cases e
      exact op_shl pins s σ H _ _ v u Q I rx ry ⟨i, j, rfl, rfl, ⟨h.1, by omega, by omega⟩, q⟩
    · cases e
  | shr =>
    simp only [binI] at e
    split at e
    · rename_i h
      cases e
      exact op_shr pins s σ H _ _ v u Q I rx ry ⟨i, j, rfl, rfl, h, q⟩
    · cases e
theorem foldl_size (xs : Array Nat) : ∀ (k : Nat) (acc : Array Nat), ((List.replicate k xs).foldl (fun x1 x2 => x1 ++ x2) acc).size = acc.size + k * xs.size
  | 0, acc => by simp
  | k + 1, acc => by
    rw [List.replicate_succ, List.foldl_cons, foldl_size xs k]
    simp [Nat.add_mul]
    omega
theorem op_rep0 : OpR X (binaryOp .Mult) (fun x y H Q => ∃ (a : Str), x = .str a ∧ y = .int 0 ∧ Q (.str (repS a 0)) H) := by
  rintro pins s σ H x y v w Q I rx ry ⟨a, rfl, rfl, q⟩
  obtain ⟨t, rfl⟩ := rx
  obtain ⟨u, rfl⟩ := ry
  refine PySem.P.mul_str ?_ ?_ ?_ ?_
  · decide
  · exact fun h => absurd (by decide) h
  · exact fun h => absurd (by decide) h
  · rw [if_pos (by decide)]
    exact ⟨by decide, ⟨V.str _, H, I.tok _, ⟨_, rfl⟩, q⟩⟩
theorem op_repS : OpR X (binaryOp .Mult) (fun x y H Q => ∃ (a : Str) (k : Int), x = .str a ∧ y = .int k ∧ 0 ≤ k ∧ k ≤ 1000 ∧ a.length ≤ 1000 ∧ 1 ≤ a.length ∧ Q (.str (repS a k.toNat)) H) := by
  rintro pins s σ H x y v w Q I rx ry ⟨a, k, rfl, rfl, h1, h2, h3, h4, q⟩
  by_cases h0 : k = 0
  · subst h0
    exact op_rep0 pins s σ H _ _ v w Q I rx ry ⟨a, rfl, rfl, q⟩
  have h1 : 1 ≤ k := by omega
  obtain ⟨t, rfl⟩ := rx
  obtain ⟨u, rfl⟩ := ry
  have hk : k.toNat ≤ 1000 := by omega
  have hlen : a.length * k.toNat ≤ 1000000 := Nat.mul_le_mul h3 hk
  refine PySem.P.mul_str ?_ ?_ ?_ ?_
  · rw [decide_eq_false (by omega), decide_eq_false (by omega)]; rfl
  · intro _ _
    have : ((2 : Int) ^ 63 - 1) / k ≥ 1000 := by
      rw [ge_iff_le, Int.le_ediv_iff_mul_le (by omega)]
      omega
    omega
  · intro _ _
    have e : (16777216 : Nat) = sizeLine := by decide
    show decide (a.length * k.toNat > sizeLine) = false
    exact decide_eq_false (by omega)
  · rw [if_neg (by omega)]
    by_cases h : k = 1
    · subst h
      exact ⟨.str a, H, I, ⟨t, rfl⟩, q⟩
    · have hb : (k == 1 || a.length == 0) = false := by
        rw [Bool.or_eq_false_iff]
        exact ⟨beq_eq_false_iff_ne.mpr h, beq_eq_false_iff_ne.mpr (by omega)⟩
      rw [hb]
      unfold repS at q
      rw [if_neg (by omega)] at q
      refine ⟨?_, ⟨V.str _, H, I.tok _, ⟨_, rfl⟩, q⟩⟩
      have e : (⟨(List.replicate k.toNat a.cps).foldl (· ++ ·) #[]⟩ : Str).length = 0 + k.toNat * a.length := foldl_size a.cps k.toNat #[]
      rw [e, Nat.zero_add, Nat.mul_comm]
      exact sz_le hlen
theorem op_bin (o : Op) (l : Bool) : OpR X (binaryOp (opS o)) (rOp2 ca fun O x y T => binU O l o x y T) := by
  rintro pins s σ H x y v w Q I rx ry ⟨φ, G, O, T, u1, u2, sd, r1, r2, h⟩
  have h : Pc ca rU φ G O (binU O l o u1 u2 T) Q := h
  unfold binU at h
  split at h
  · -- two ints
    have := rp_int r1; have := rp_int r2; subst_vars
    split at h
    · rename_i hk
      exact op_int o pins s σ H _ _ v w Q I rx ry ⟨_, _, _, rfl, rfl, hk, Pc.now h sd (.d (.int _))⟩
    · exact h.elim
  · -- two texts
    have := rp_str r1; have := rp_str r2; subst_vars
    split at h
    · rename_i hz
      exact op_add_str pins s σ H _ _ v w Q I rx ry ⟨_, _, rfl, rfl, sz_le (sizeOk_le hz), Pc.now h sd (.d (.str _))⟩
    · exact h.elim
  · -- lists, tuples
    split at h
    · rename_i h1 h2
      obtain ⟨a, vs, rfl, ha, ra⟩ := seqL_ok sd r1 h1
      obtain ⟨b, ws, rfl, hb, rb⟩ := seqL_ok sd r2 h2
      split at h
      · rename_i hz
        have hz := sizeOk_le hz
        rw [← ra.length, ← rb.length] at hz
        exact op_catR pins s σ H _ _ v w Q I rx ry ⟨a, b, vs, ws, rfl, rfl, ha, hb, sz_le hz, fun p np => mkL_ok h sd (ra.append rb) np⟩
      · exact h.elim
    · split at h
      · rename_i h1 h2
        obtain ⟨a, vs, rfl, ga, ra⟩ := seqT_okG r1 h1
        obtain ⟨b, ws, rfl, gb, rb⟩ := seqT_okG r2 h2
        have ha := sd.ex _ _ ga
        have hb := sd.ex _ _ gb
        split at h
        · rename_i hz
          have hz := sizeOk_le hz
          rw [← ra.length, ← rb.length] at hz
          refine op_catA pins s σ H _ _ v w Q I rx ry ⟨a, b, vs, ws, rfl, rfl, .inl (.inl ha), .inl (.inl hb), sz_le hz, fun e => ?_, fun _ e => ?_, fun _ _ p np => mkT_ok h sd (ra.append rb) np⟩
          · subst e
            cases ra
            exact Pc.now h sd (mkT_rp gb rb)
          · subst e
            cases rb
            rw [List.append_nil] at h
            exact Pc.now h sd (mkT_rp ga ra)
        · exact h.elim
      · exact h.elim
    · exact h.elim
  · -- a text repeated
    have := rp_str r1; have := rp_int r2; subst_vars
    split at h
    · rename_i hz
      simp only [Bool.and_eq_true, decide_eq_true_eq] at hz
      exact op_repS pins s σ H _ _ v w Q I rx ry ⟨_, _, rfl, rfl, hz.1.1.1, hz.1.1.2, hz.1.2, hz.2, Pc.now h sd (.d (.str _))⟩
    · exact h.elim
  · -- repeated
    have := rp_int r2; subst_vars
    split at h
    · rename_i h1
      obtain ⟨a, vs, rfl, ha, ra⟩ := seqL_ok sd r1 h1
      split at h
      · rename_i hz
        simp only [Bool.and_eq_true, decide_eq_true_eq] at hz
        have hz2 := sizeOk_le hz.2
        rw [← ra.length] at hz2
        exact op_repR pins s σ H _ _ v w Q I rx ry ⟨a, _, vs, rfl, rfl, ha, by omega, by omega, sz_le hz2, fun p np => mkL_ok h sd (ra.replicate _) np⟩
      · exact h.elim
    · split at h
      · rename_i us h1
        obtain ⟨a, vs, rfl, ga, ra⟩ := seqT_okG r1 h1
        have ha := sd.ex _ _ ga
        split at h
        · rename_i hz
          simp only [Bool.and_eq_true, decide_eq_true_eq, Bool.not_eq_true', List.isEmpty_eq_false_iff] at hz
          have hl := ra.length
          rename_i kk _ _ _ _ _ _
          by_cases h1 : kk = 1
          · subst h1
            have e1 : (List.replicate (1 : Int).toNat us).flatten = us := by simp
            rw [e1] at h
            exact op_rep1 pins s σ H _ _ v w Q I rx ry ⟨a, vs, rfl, rfl, .inl (.inl ha), Pc.now h sd (mkT_rp ga ra)⟩
          · exact op_repT pins s σ H _ _ v w Q I rx ry ⟨a, _, vs, rfl, rfl, .inl (.inl ha), fun e => hz.1.1.1 (by rw [e] at hl; exact List.length_eq_zero_iff.mp hl.symm), by omega, hz.1.2, by omega, fun p np => mkT_ok h sd (ra.replicate _) np⟩
        · exact h.elim
      · exact h.elim
  · exact h.elim
end
end Y

set_option Elab.async false
set_option linter.all false
set_option maxRecDepth 100000
set_option maxHeartbeats 1000000
namespace Y
open PySem PySem.Spec L2
section
variable {ca : Nat → Addr} {φ φ' : List Addr} {G G' H : Hp} {O T : Cs} {X : Cx} {K : PySem.W.Frag}
mutual
theorem toD_ok (s : Sd ca φ G H (O ++ T)) : ∀ (n : Nat) (u : U) (v : V) (d : D), RpU G φ v u → toD O T n u = some d → Dp K H v d
  | n, .d x, v, d, r, e => by
    rw [toD_d] at e
    cases e
    cases r with
    | d r => exact Rp.dp s.ex _ _ r
  | n, .tup us, v, d, r, e => by
    rw [toD_tup, Option.map_eq_some_iff] at e
    obtain ⟨ds, e, rfl⟩ := e
    cases r with
    | tup h1 h2 => exact .tup (.inl (.inl (s.ex _ _ h1))) (toDs_ok s n us _ ds h2 e)
  | 0, .ref i, v, d, r, e => by
    rw [toD_ref0] at e
    cases e
  | n + 1, .ref i, v, d, r, e => by
    rw [toD_refS] at e
    cases r with
    | ref hi =>
      split at e
      · rename_i hc
        cases e
        obtain ⟨vs, h1, h2⟩ := cell_at s hi hc
        exact .lst (.inl (.inl h1)) (Rps.dp s.ex _ _ h2)
      · rename_i us hc
        rw [Option.map_eq_some_iff] at e
        obtain ⟨ds, e, rfl⟩ := e
        obtain ⟨vs, h1, h2⟩ := cell_at s hi hc
        exact .lst (.inl (.inl h1)) (toDs_ok s n us _ ds h2 e)
      · cases e
termination_by n u => (n, sizeOf u)
theorem toDs_ok (s : Sd ca φ G H (O ++ T)) : ∀ (n : Nat) (us : List U) (vs : List V) (ds : List D), RpUs G φ vs us → toDs O T n us = some ds → DpAll K H vs ds
  | n, [], vs, ds, r, e => by
    rw [toDs_nil] at e
    cases e
    cases r
    exact .nil
  | n, u :: us, vs, ds, r, e => by
    rw [toDs_cons] at e
    cases r with
    | cons r1 r2 =>
      split at e
      · rename_i x hx
        rw [Option.map_eq_some_iff] at e
        obtain ⟨ds, e, rfl⟩ := e
        exact .cons (toD_ok s n u _ _ r1 hx) (toDs_ok s n us _ _ r2 e)
      · cases e
termination_by n us => (n, sizeOf us)
end
/-- dicts -/
theorem RpK.val : ∀ {ws : List (List Key × V)} {kvs : List (Ky × U)} (k : Ky), RpK G φ ws kvs → (lookK kvs k = none ∧ valV ws k = none) ∨ ∃ u v, lookK kvs k = some u ∧ valV ws k = some v ∧ RpU G φ v u
  | _, _, k, .nil => .inl ⟨rfl, rfl⟩
  | _, _, k, .cons (k := k') (ws := ws) (kvs := kvs) h t => by
    unfold lookK valV
    by_cases e : k' = k
    · rw [List.find?_cons_of_pos (by simpa using e), List.find?_cons_of_pos (by simpa using e)]
      exact .inr ⟨_, _, rfl, rfl, h⟩
    · rw [List.find?_cons_of_neg (by simpa using e), List.find?_cons_of_neg (by simpa using e)]
      exact RpK.val k t
theorem RpK.length : ∀ {ws : List (List Key × V)} {kvs : List (Ky × U)}, RpK G φ ws kvs → ws.length = kvs.length
  | _, _, .nil => rfl
  | _, _, .cons _ t => by simp [RpK.length t]
theorem dictOf_ok (s : Sd ca φ G H (O ++ T)) {u : U} {v : V} {kvs : List (Ky × U)} (r : RpU G φ v u) (e : dictOf O T u = some kvs) : ∃ a ws, v = .ref a ∧ H a = some (.dT ws) ∧ RpK G φ ws kvs := by
  unfold dictOf at e
  split at e
  · cases r with
    | ref hi =>
      split at e
      · rename_i hc
        cases e
        obtain ⟨ws, h1, h2⟩ := cell_at s hi hc
        exact ⟨_, ws, rfl, h1, h2⟩
      · rename_i hc
        cases e
        obtain ⟨ws, h1, h2⟩ := cell_at s hi hc
        exact ⟨_, ws, rfl, h1, h2⟩
      · cases e
  · cases e
theorem keysOf_ok : ∀ {ds : List D} {vs : List V} {k : Ky}, Rps G vs ds → keysOf ds = some k → vs = k.map kV
  | [], _, k, h, e => by cases h; simp [keysOf] at e; subst e; rfl
  | d :: ds, _, k, h, e => by
    cases h with
    | cons h1 h2 =>
      unfold keysOf at e
      split at e
      · rename_i q qs e1 e2
        cases e
        rw [keysOf_ok h2 e2]
        unfold keyOf1 at e1
        split at e1
        · cases e1; cases h1; rfl
        · cases e1; cases h1; rfl
        · cases e1
      · cases e
theorem keyU_ok (s : Sd ca φ G H (O ++ T)) {u : U} {v : V} {k : Ky} (r : RpU G φ v u) (e : keyU u = some k) : ∃ b, v = .ref b ∧ H b = some (.tup (k.map kV)) := by
  unfold keyU at e
  split at e
  · cases r with
    | d r =>
      cases r with
      | tup h1 h2 =>
        rw [← keysOf_ok h2 e]
        exact ⟨_, rfl, s.ex _ _ h1⟩
  · cases e
def copS : COp → CmpOp
  | .eq => .Eq | .ne => .NotEq | .lt => .Lt | .le => .LtE | .gt => .Gt | .ge => .GtE | .is => .Is | .isnot => .IsNot | .isin => .In | .notin => .NotIn
theorem isNone_iff {u : U} {v : V} (r : RpU G φ v u) : isNone u = decide (v = .non) := by
  cases r with
  | d r => cases r <;> rfl
  | ref _ => rfl
  | tup _ _ => rfl
theorem flat_ok {d : D} {v : V} (r : Rp G v d) (h : cmpU.flat d = true) : flatV v = true := by
  cases r <;> first | rfl | exact absurd h (by simp [cmpU.flat])
theorem flat_eqv {d e : D} {v w : V} (r : Rp G v d) (r' : Rp G w e) (h : cmpU.flat d = true) (h' : cmpU.flat e = true) : eqV v w = PyData.eqv d e := by
  cases r <;> cases r' <;> first | rfl | (simp [cmpU.flat] at h; done) | (simp [cmpU.flat] at h'; done) | (unfold PyData.eqv; rfl)
theorem flat_any {d : D} {v : V} (r : Rp G v d) (h : cmpU.flat d = true) : ∀ {ds : List D} {vs : List V}, Rps G vs ds → ds.all cmpU.flat = true → vs.all flatV = true ∧ inV v vs = ds.any fun z => PyData.eqv z d
  | [], _, q, _ => by cases q; exact ⟨rfl, rfl⟩
  | e :: ds, _, q, hq => by
    cases q with
    | cons q1 q2 =>
      simp only [List.all_cons, Bool.and_eq_true] at hq
      obtain ⟨a1, a2⟩ := flat_any r h q2 hq.2
      refine ⟨by simp [flat_ok q1 hq.1, a1], ?_⟩
      unfold inV at a2 ⊢
      simp only [List.any_cons, a2, flat_eqv q1 r hq.1 h]
/-- what «in» answers -/
theorem isin_ok (neg : Bool) (hu : X.A.units + 65 < cLine) {pins : List (Addr × Obj)} {s : Shared} {σ : L2.St} {x y : V} {v w : Value} {Q : VK} (I : L2.Inv X pins σ H s) (rx : RelV x v) (ry : RelV y w) (sd : Sd ca φ G H (O ++ T)) {u1 u2 : U} (r1 : RpU G φ x u1) (r2 : RpU G φ y u2) {k : Bool}
    (e : cmpU.isinU O u1 u2 T = some k) (q : Q (.bl (if neg then !k else k)) H) : wpAny (model X.prog X.w) X.A (compareOp (if neg then .NotIn else .In) v w) (EP X pins σ Q) X.xe s := by
  unfold cmpU.isinU at e
  split at e
  · rename_i kvs hd
    obtain ⟨a, ws, rfl, ha, hk⟩ := dictOf_ok sd r2 hd
    obtain rfl : w = Value.ref a := ry
    split at e
    · rename_i key hkey
      obtain ⟨b, rfl, hb⟩ := keyU_ok sd r1 hkey
      have g : DGet H a (.ref b) (valV ws key) := DGet.t ha hb
      have hs : (valV ws key).isSome = k := by
        rcases hk.val key with ⟨e1, e2⟩ | ⟨_, _, e1, e2, _⟩ <;> rw [e1] at e <;> rw [e2] <;> cases e <;> rfl
      cases neg with
      | false => exact d_in (by omega) I g rx fun s' I' => ⟨.bl _, H, I', rfl, by rw [hs]; exact q⟩
      | true => exact d_notIn (by omega) I g rx fun s' I' => ⟨.bl _, H, I', rfl, by rw [hs]; exact q⟩
    · cases e
  · split at e
    · rename_i c z
      have := rp_str r1; have := rp_str r2; subst_vars
      split at e
      · rename_i kk
        cases e
        cases neg with
        | false => exact op_in_sign pins s σ H _ _ v w Q I rx ry ⟨kk, _, rfl, rfl, q⟩
        | true => exact op_notIn_sign pins s σ H _ _ v w Q I rx ry ⟨kk, _, rfl, rfl, q⟩
      · cases e
    · rename_i a ds
      split at e
      · rename_i hs
        cases e
        simp only [Bool.and_eq_true] at hs
        cases r1 with
        | d r1 =>
          cases r2 with
          | d r2 =>
            cases r2 with
            | tup g1 g2 =>
              obtain ⟨b1, b2⟩ := flat_any r1 hs.1 g2 hs.2
              cases neg with
              | false => exact op_in_seq pins s σ H _ _ v w Q I rx ry ⟨_, _, rfl, .inr (.inl (.inl (sd.ex _ _ g1))), flat_ok r1 hs.1, b1, by rw [b2]; exact q⟩
              | true => exact op_notIn_seq pins s σ H _ _ v w Q I rx ry ⟨_, _, rfl, .inr (.inl (.inl (sd.ex _ _ g1))), flat_ok r1 hs.1, b1, by rw [b2]; exact q⟩
      · cases e
    · split at e
      · rename_i a ds h1 h2
        split at e
        · rename_i hs
          cases e
          simp only [Bool.and_eq_true] at hs
          have d1 := toD_ok (K := X.K) sd 3 _ x a r1 h1
          have d2 := toD_ok (K := X.K) sd 3 _ y _ r2 h2
          cases neg with
          | false => exact op_inD hu pins s σ H _ _ v w Q I rx ry ⟨a, ds, d1, d2, hs.1, hs.2, q⟩
          | true => exact op_notInD hu pins s σ H _ _ v w Q I rx ry ⟨a, ds, d1, d2, hs.1, hs.2, q⟩
        · cases e
      · cases e
theorem op_cmp (o : COp) (hu : X.A.units + 65 < cLine) : OpR X (compareOp (copS o)) (rOp2 ca (cmpR o)) := by
  rintro pins s σ H x y v w Q I rx ry ⟨φ, G, O, T, u1, u2, sd, r1, r2, h⟩
  have h : Pc ca rU φ G O (match cmpU O o u1 u2 T with | some k => .ok (.d (.bool k)) T | none => .fail) Q := h
  cases e : cmpU O o u1 u2 T with
  | none => rw [e] at h; exact h.elim
  | some k =>
    rw [e] at h
    have q : Q (.bl k) H := Pc.now h sd (.d (.bl _))
    clear h
    unfold cmpU at e
    cases o with
    | eq =>
      simp only at e
      split at e
      · rename_i a b h1 h2
        split at e
        · rename_i hs
          cases e
          simp only [Bool.and_eq_true] at hs
          exact op_eqD (by omega) pins s σ H _ _ v w Q I rx ry ⟨a, b, toD_ok (K := X.K) sd 3 _ x a r1 h1, toD_ok (K := X.K) sd 3 _ y b r2 h2, hs.1, hs.2, q⟩
        · cases e
      · cases e
    | ne =>
      simp only at e
      split at e
      · rename_i a b h1 h2
        split at e
        · rename_i hs
          cases e
          simp only [Bool.and_eq_true] at hs
          exact op_neD (by omega) pins s σ H _ _ v w Q I rx ry ⟨a, b, toD_ok (K := X.K) sd 3 _ x a r1 h1, toD_ok (K := X.K) sd 3 _ y b r2 h2, hs.1, hs.2, q⟩
        · cases e
      · cases e
    | is =>
      simp only at e
      split at e
      · rename_i hn
        cases e
        rw [isNone_iff r2, decide_eq_true_eq] at hn
        rw [isNone_iff r1] at q
        exact op_isN pins s σ H _ _ v w Q I rx ry ⟨hn, q⟩
      · split at e
        · cases e
          have e1 := rp_bl r1
          have e2 := rp_bl r2
          rw [e1] at rx
          rw [e2] at ry
          exact op_is_bl pins s σ H _ _ _ _ Q I rx ry ⟨_, _, rfl, rfl, q⟩
        · cases e
    | isnot =>
      simp only at e
      split at e
      · rename_i hn
        cases e
        rw [isNone_iff r2, decide_eq_true_eq] at hn
        rw [isNone_iff r1] at q
        exact op_notN pins s σ H _ _ v w Q I rx ry ⟨hn, q⟩
      · cases e
    | lt =>
      simp only at e
      split at e
      · cases e
        have := rp_int r1; have := rp_int r2; subst_vars
        exact op_lt pins s σ H _ _ v w Q I rx ry ⟨_, _, rfl, rfl, q⟩
      · rename_i a b c d
        cases e
        cases r1 with
        | d r1 =>
          cases r1 with
          | tup g1 g2 =>
            cases r2 with
            | d r2 =>
              cases r2 with
              | tup k1 k2 =>
                cases g2 with
                | cons g2 g3 =>
                  cases g2
                  cases g3 with
                  | cons g3 g4 =>
                    cases g3
                    cases g4
                    cases k2 with
                    | cons k2 k3 =>
                      cases k2
                      cases k3 with
                      | cons k3 k4 =>
                        cases k3
                        cases k4
                        refine op_ltT (by omega) pins s σ H _ _ v w Q I rx ry ⟨_, _, [a, b], [c, d], rfl, rfl, .inl (.inl (sd.ex _ _ g1)), .inl (.inl (sd.ex _ _ k1)), ?_⟩
                        have e : HT.lexLt [a, b] [c, d] = decide (a < c ∨ a = c ∧ b < d) := by
                          simp only [HT.lexLt]
                          by_cases h1 : a < c
                          · have h2 : a ≠ c := by omega
                            simp [h1, h2]
                          · by_cases h2 : a = c
                            · subst h2
                              by_cases h3 : b < d
                              · have h4 : b ≠ d := by omega
                                simp [h3, h4]
                              · simp [h3]
                            · simp [h1, h2]
                        rw [e]
                        exact q
      · cases e
    | le =>
      simp only at e
      split at e
      · cases e
        have := rp_int r1; have := rp_int r2; subst_vars
        exact op_le pins s σ H _ _ v w Q I rx ry ⟨_, _, rfl, rfl, q⟩
      · cases e
    | gt =>
      simp only at e
      split at e
      · cases e
        have := rp_int r1; have := rp_int r2; subst_vars
        exact op_gt pins s σ H _ _ v w Q I rx ry ⟨_, _, rfl, rfl, q⟩
      · cases e
    | ge =>
      simp only at e
      split at e
      · cases e
        have := rp_int r1; have := rp_int r2; subst_vars
        exact op_ge pins s σ H _ _ v w Q I rx ry ⟨_, _, rfl, rfl, q⟩
      · cases e
    | isin => exact isin_ok false hu I rx ry sd r1 r2 e q
    | notin =>
      simp only at e
      rw [Option.map_eq_some_iff] at e
      obtain ⟨k', e, rfl⟩ := e
      exact isin_ok true hu I rx ry sd r1 r2 e q
theorem atI_rp {ds : List D} {vs : List V} {i : Int} {x : D} (r : Rps G vs ds) (e : L2.atI ds i = some x) : ∃ v, L2.atI vs i = some v ∧ Rp G v x := by
  unfold L2.atI at e ⊢
  rw [r.length]
  cases q : ixN ds.length i with
  | none => rw [q] at e; cases e
  | some j => rw [q] at e; exact r.get e
theorem atI_rpU {ds : List U} {vs : List V} {i : Int} {x : U} (r : RpUs G φ vs ds) (e : L2.atI ds i = some x) : ∃ v, L2.atI vs i = some v ∧ RpU G φ v x := by
  unfold L2.atI at e ⊢
  rw [r.length]
  cases q : ixN ds.length i with
  | none => rw [q] at e; cases e
  | some j => rw [q] at e; exact r.get e
theorem ix_any (hu : X.A.units + 65 < cLine) : IxR X (rOp2 ca fun O x y T => R.ofO T (ixU O x y T)) := by
  rintro value slice pins s σ H x y v w Q I rx ry ⟨φ, G, O, T, u1, u2, sd, r1, r2, h⟩ hs
  have h : Pc ca rU φ G O (R.ofO T (ixU O u1 u2 T)) Q := h
  cases e : ixU O u1 u2 T with
  | none => rw [e] at h; exact h.elim
  | some z =>
    rw [e] at h
    have q : ∀ z', RpU G φ z' z → Q z' H := fun z' r => Pc.now h sd r
    clear h
    unfold ixU at e
    split at e
    · rename_i i
      have := rp_int r2; subst_vars
      split at e
      · rw [Option.map_eq_some_iff] at e
        obtain ⟨d, e, rfl⟩ := e
        cases r1 with
        | d r1 =>
          cases r1 with
          | lst g1 g2 =>
            obtain ⟨z', e1, e2⟩ := atI_rp g2 e
            exact ix_list value slice pins s σ H _ _ v w Q I rx ry ⟨_, _, _, _, rfl, rfl, .inl (sd.ex.rd g1), e1, q _ (.d e2)⟩ hs
      · rw [Option.map_eq_some_iff] at e
        obtain ⟨d, e, rfl⟩ := e
        cases r1 with
        | d r1 =>
          cases r1 with
          | tup g1 g2 =>
            obtain ⟨z', e1, e2⟩ := atI_rp g2 e
            exact ix_tup value slice pins s σ H _ _ v w Q I rx ry ⟨_, _, _, _, rfl, rfl, .inl (.inl (sd.ex _ _ g1)), e1, q _ (.d e2)⟩ hs
      · split at e
        · rename_i hz
          rw [Option.map_eq_some_iff] at e
          obtain ⟨c, e, rfl⟩ := e
          have := rp_str r1; subst_vars
          exact ix_str value slice pins s σ H _ _ v w Q I rx ry ⟨_, _, c, rfl, rfl, sz_le (sizeOk_le hz), e, q _ (.d (.str _))⟩ hs
        · cases e
      · cases r1 with
        | tup g1 g2 =>
          obtain ⟨z', e1, e2⟩ := atI_rpU g2 e
          exact ix_tup value slice pins s σ H _ _ v w Q I rx ry ⟨_, _, _, _, rfl, rfl, .inl (.inl (sd.ex _ _ g1)), e1, q _ e2⟩ hs
      · cases r1 with
        | ref hi =>
          split at e
          · rename_i hc
            rw [Option.map_eq_some_iff] at e
            obtain ⟨d, e, rfl⟩ := e
            obtain ⟨vs, h1, h2⟩ := cell_at sd hi hc
            obtain ⟨z', e1, e2⟩ := atI_rp h2 e
            exact ix_list value slice pins s σ H _ _ v w Q I rx ry ⟨_, _, _, _, rfl, rfl, .inl (.inl h1), e1, q _ (.d e2)⟩ hs
          · rename_i hc
            obtain ⟨vs, h1, h2⟩ := cell_at sd hi hc
            obtain ⟨z', e1, e2⟩ := atI_rpU h2 e
            exact ix_list value slice pins s σ H _ _ v w Q I rx ry ⟨_, _, _, _, rfl, rfl, .inl (.inl h1), e1, q _ e2⟩ hs
          · cases e
      · cases e
    · split at e
      · rename_i kvs k hd hk
        obtain ⟨a, ws, rfl, ha, hkv⟩ := dictOf_ok sd r1 hd
        obtain ⟨b, rfl, hb⟩ := keyU_ok sd r2 hk
        rcases hkv.val k with ⟨e1, e2⟩ | ⟨u', v', e1, e2, e3⟩
        · rw [e1] at e; cases e
        · rw [e1] at e
          cases e
          obtain rfl : v = Value.ref a := rx
          have g : DGet H a (.ref b) (some v') := by
            rw [← e2]
            exact DGet.t ha hb
          exact PyProof.Rows.tail_any (dict_typeIs I g) PySem.F.slot_dict_getitem.lookup (d_getItem (by omega) I g ry fun w' s' I' rw' => ⟨_, H, I', rw', q _ e3⟩) hs
      · cases e
theorem cut_rp {us : List U} {vs : List V} (r : RpUs G φ vs us) (lo hi : Option Int) : RpUs G φ (cutV vs lo hi) (cut us lo hi) := by
  unfold cutV cut
  rw [r.length]
  exact (r.drop _).take _
def rSl (ca : Nat → Addr) (l : Bool) : V → Option Int → Option Int → Hp → VK → Prop := fun x lo hi H Q => ∃ φ G O T u, Sd ca φ G H (O ++ T) ∧ RpU G φ x u ∧ Pc ca rU φ G O (slcU O l u lo hi T) Q
theorem sl_any (l : Bool) : SlR X (rSl ca l) := by
  rintro pins s σ H x v vl vu lo hi sl Q I rx hs pl pu ⟨φ, G, O, T, u, sd, r, h⟩
  unfold slcU at h
  split at h
  · rename_i us hl
    obtain ⟨a, vs, rfl, ha, ra⟩ := seqL_ok sd r hl
    exact sl_list pins s σ H _ v vl vu lo hi sl Q I rx hs pl pu ⟨a, vs, rfl, .inl ha, fun p np => mkL_ok h sd (cut_rp ra lo hi) np⟩
  · split at h
    · rename_i us ht
      obtain ⟨a, vs, rfl, ga, ra⟩ := seqT_okG r ht
      refine sl_tupA pins s σ H _ v vl vu lo hi sl Q I rx hs pl pu ⟨a, vs, rfl, .inl (.inl (sd.ex _ _ ga)), fun hw => ?_, fun _ p np => mkT_ok h sd (cut_rp ra lo hi) np⟩
      have ew : cut us lo hi = us := by
        unfold cut
        rw [ra.length] at hw
        rw [hw.1, hw.2]
        simp
      rw [ew] at h
      exact Pc.now h sd (mkT_rp ga ra)
    · split at h
      · split at h
        · rename_i hz
          have := rp_str r; subst_vars
          exact sl_str pins s σ H _ v vl vu lo hi sl Q I rx hs pl pu ⟨_, rfl, sz_le (sizeOk_le hz), Pc.now h sd (.d (.str _))⟩
        · exact h.elim
      · exact h.elim
end
end Y

set_option Elab.async false
set_option linter.all false
set_option maxRecDepth 100000
set_option maxHeartbeats 1000000
namespace Y
open PySem PySem.Spec L2
section
variable {ca : Nat → Addr} {φ φ' : List Addr} {G G' H : Hp} {O T : Cs} {X : Cx} {K : PySem.W.Frag}
theorem RpUs.one {xs : List V} {u : U} (r : RpUs G φ xs [u]) : ∃ x, xs = [x] ∧ RpU G φ x u := by
  cases r with
  | cons h t => cases t; exact ⟨_, rfl, h⟩
theorem RpUs.two {xs : List V} {u w : U} (r : RpUs G φ xs [u, w]) : ∃ x y, xs = [x, y] ∧ RpU G φ x u ∧ RpU G φ y w := by
  cases r with
  | cons h t =>
    cases t with
    | cons h2 t => cases t; exact ⟨_, _, rfl, h, h2⟩
theorem listD_ok (s : Sd ca φ G H (O ++ T)) {u : U} {v : V} {ds : List D} (r : RpU G φ v u) (e : listD O T u = some ds) : ∃ a vs, v = .ref a ∧ Rd H a (.lst vs) ∧ Rps G vs ds := by
  unfold listD at e
  split at e
  · cases e
    cases r with
    | d r => cases r with | lst h1 h2 => exact ⟨_, _, rfl, s.ex.rd h1, h2⟩
  · cases r with
    | ref hi =>
      split at e
      · rename_i hc
        cases e
        obtain ⟨vs, h1, h2⟩ := cell_at s hi hc
        exact ⟨_, vs, rfl, .inl h1, h2⟩
      · cases e
  · cases e
theorem intsOf_ok : ∀ {ds : List D} {vs : List V} {ns : List Int}, Rps G vs ds → intsOf ds = some ns → vs = ns.map V.int
  | [], _, k, h, e => by cases h; simp [intsOf] at e; subst e; rfl
  | d :: ds, _, k, h, e => by
    cases h with
    | cons h1 h2 =>
      cases d <;> simp only [intsOf, Option.map_eq_some_iff, reduceCtorEq] at e
      obtain ⟨r, e, rfl⟩ := e
      cases h1
      rw [intsOf_ok h2 e] <;> rfl
theorem boolsOf_ok : ∀ {ds : List D} {vs : List V} {ns : List Bool}, Rps G vs ds → boolsOf ds = some ns → vs = ns.map V.bl
  | [], _, k, h, e => by cases h; simp [boolsOf] at e; subst e; rfl
  | d :: ds, _, k, h, e => by
    cases h with
    | cons h1 h2 =>
      cases d <;> simp only [boolsOf, Option.map_eq_some_iff, reduceCtorEq] at e
      obtain ⟨r, e, rfl⟩ := e
      cases h1
      rw [boolsOf_ok h2 e] <;> rfl
theorem strsOf_ok : ∀ {ds : List D} {vs : List V} {ns : List Str}, Rps G vs ds → strsOf ds = some ns → vs = ns.map V.str
  | [], _, k, h, e => by cases h; simp [strsOf] at e; subst e; rfl
  | d :: ds, _, k, h, e => by
    cases h with
    | cons h1 h2 =>
      cases d <;> simp only [strsOf, Option.map_eq_some_iff, reduceCtorEq] at e
      obtain ⟨r, e, rfl⟩ := e
      cases h1
      rw [strsOf_ok h2 e] <;> rfl
abbrev rBi (ca : Nat → Addr) (l : Bool) (b : BI) : List V → Hp → VK → Prop := rOpA ca fun O us T => biU O l b us T
variable {l : Bool}
theorem bi_one {b : BI} {f : Cs → Cs → U → R U} (hf : ∀ O us T, biU O l b us T = one us (f O T)) {xs : List V} {Q : VK} (h : rBi ca l b xs H Q) :
    ∃ x φ G O T u, xs = [x] ∧ Sd ca φ G H (O ++ T) ∧ RpU G φ x u ∧ Pc ca rU φ G O (f O T u) Q := by
  obtain ⟨φ, G, O, T, us, sd, r, h⟩ := h
  have h : Pc ca rU φ G O (biU O l b us T) Q := h
  rw [hf] at h
  rcases us with _ | ⟨u, _ | ⟨u2, rest⟩⟩
  · exact h.elim
  · obtain ⟨x, rfl, r1⟩ := r.one
    exact ⟨x, φ, G, O, T, _, rfl, sd, r1, h⟩
  · exact h.elim
theorem bi_two {b : BI} {f : Cs → Cs → U → U → R U} (hf : ∀ O us T, biU O l b us T = two us (f O T)) {xs : List V} {Q : VK} (h : rBi ca l b xs H Q) :
    ∃ x y φ G O T u w, xs = [x, y] ∧ Sd ca φ G H (O ++ T) ∧ RpU G φ x u ∧ RpU G φ y w ∧ Pc ca rU φ G O (f O T u w) Q := by
  obtain ⟨φ, G, O, T, us, sd, r, h⟩ := h
  have h : Pc ca rU φ G O (biU O l b us T) Q := h
  rw [hf] at h
  rcases us with _ | ⟨u, _ | ⟨u2, _ | ⟨u3, rest⟩⟩⟩
  · exact h.elim
  · exact h.elim
  · obtain ⟨x, y, rfl, r1, r2⟩ := r.two
    exact ⟨x, y, φ, G, O, T, _, _, rfl, sd, r1, r2, h⟩
  · exact h.elim
theorem cr_len : CallR X (.builtin "len") (rBi ca l .len) := by
  rintro pins s σ H xs us Q I rv h0
  obtain ⟨x, φ, G, O, T, u, rfl, sd, r, h⟩ := bi_one (b := .len) (f := fun O T => lenB O T) (fun _ _ _ => rfl) h0
  clear h0
  unfold lenB at h
  split at h
  · split at h
    · rename_i hz
      have := rp_str r; subst_vars
      exact call_len_str pins s σ H _ us Q I rv ⟨_, rfl, sz_le (sizeOk_le hz), Pc.now h sd (.d (.int _))⟩
    · exact h.elim
  · split at h
    · rename_i ws hs
      obtain ⟨a, vs, rfl, ha, ra⟩ := seqA_ok sd r hs
      have q : Q (.int (ws.length : Int)) H := Pc.now h sd (.d (.int _))
      rw [← ra.length] at q
      exact call_len_seq pins s σ H _ us Q I rv ⟨a, vs, rfl, ha.elim (fun z => .inl (.inl z)) (fun z => .inr (.inl (.inl z))), q⟩
    · split at h
      · rename_i kvs hd
        obtain ⟨a, ws, rfl, ha, rk⟩ := dictOf_ok sd r hd
        have q : Q (.int (kvs.length : Int)) H := Pc.now h sd (.d (.int _))
        rw [← rk.length] at q
        exact call_len_dT pins s σ H _ us Q I rv ⟨a, ws, rfl, ha, q⟩
      · exact h.elim
theorem cr_list : CallR X (.type "list") (rBi ca l .list) := by
  rintro pins s σ H xs us Q I rv h0
  obtain ⟨x, φ, G, O, T, u, rfl, sd, r, h⟩ := bi_one (b := .list) (f := fun O T => listB O l T) (fun _ _ _ => rfl) h0
  clear h0
  unfold listB at h
  split at h
  · rename_i ws hs
    obtain ⟨a, vs, rfl, ha, ra⟩ := seqA_ok sd r hs
    exact call_list_of pins s σ H _ us Q I rv ⟨a, vs, rfl, ha.elim (fun z => .inl (.inl z)) (fun z => .inr (.inl (.inl z))), fun p np => mkL_ok h sd ra np⟩
  · exact h.elim
theorem cr_tuple : CallR X (.type "tuple") (rBi ca l .tuple) := by
  rintro pins s σ H xs us Q I rv h0
  obtain ⟨x, φ, G, O, T, u, rfl, sd, r, h⟩ := bi_one (b := .tuple) (f := fun O T => tupleB O T) (fun _ _ _ => rfl) h0
  clear h0
  unfold tupleB at h
  split at h
  · rename_i ws hs
    obtain ⟨a, vs, rfl, ha, ra⟩ := seqL_ok sd r hs
    exact call_tuple_of pins s σ H _ us Q I rv ⟨a, vs, rfl, .inl ⟨.inl ha, fun p np => mkT_ok h sd ra np⟩⟩
  · split at h
    · rename_i hs
      obtain ⟨a, vs, rfl, ha, ra⟩ := seqT_ok sd r hs
      exact call_tuple_of pins s σ H _ us Q I rv ⟨a, vs, rfl, .inr ⟨.inl (.inl ha), Pc.now h sd r⟩⟩
    · exact h.elim
theorem cr_sum' (hc : X.calm = true) : CallR X (.builtin "sum") (rBi ca l .sum) := by
  rintro pins s σ H xs us Q I rv h0
  obtain ⟨x, φ, G, O, T, u, rfl, sd, r, h⟩ := bi_one (b := .sum) (f := fun O T => sumB O T) (fun _ _ _ => rfl) h0
  clear h0
  unfold sumB at h
  split at h
  · rename_i ns hs
    obtain ⟨ds, e1, e2⟩ := Option.bind_eq_some_iff.mp hs
    obtain ⟨a, vs, rfl, ha, ra⟩ := listD_ok sd r e1
    rw [intsOf_ok ra e2] at ha
    exact cr_sum hc pins s σ H _ us Q I rv ⟨a, ns, rfl, .inl ha, Pc.now h sd (.d (.int _))⟩
  · exact h.elim
theorem cr_all' (hc : X.calm = true) : CallR X (.builtin "all") (rBi ca l .all) := by
  rintro pins s σ H xs us Q I rv h0
  obtain ⟨x, φ, G, O, T, u, rfl, sd, r, h⟩ := bi_one (b := .all) (f := fun O T => allB O T) (fun _ _ _ => rfl) h0
  clear h0
  unfold allB at h
  split at h
  · rename_i ns hs
    obtain ⟨ds, e1, e2⟩ := Option.bind_eq_some_iff.mp hs
    obtain ⟨a, vs, rfl, ha, ra⟩ := listD_ok sd r e1
    rw [boolsOf_ok ra e2] at ha
    exact cr_all hc pins s σ H _ us Q I rv ⟨a, ns, rfl, .inl ha, Pc.now h sd (.d (.bl _))⟩
  · exact h.elim
theorem cr_any' (hc : X.calm = true) : CallR X (.builtin "any") (rBi ca l .any) := by
  rintro pins s σ H xs us Q I rv h0
  obtain ⟨x, φ, G, O, T, u, rfl, sd, r, h⟩ := bi_one (b := .any) (f := fun O T => anyB O T) (fun _ _ _ => rfl) h0
  clear h0
  unfold anyB at h
  split at h
  · rename_i ns hs
    obtain ⟨ds, e1, e2⟩ := Option.bind_eq_some_iff.mp hs
    obtain ⟨a, vs, rfl, ha, ra⟩ := listD_ok sd r e1
    rw [boolsOf_ok ra e2] at ha
    exact cr_any hc pins s σ H _ us Q I rv ⟨a, ns, rfl, .inl ha, Pc.now h sd (.d (.bl _))⟩
  · exact h.elim
theorem cr_int : CallR X (.type "int") (rBi ca l .int) := by
  rintro pins s σ H xs us Q I rv h0
  obtain ⟨x, φ, G, O, T, u, rfl, sd, r, h⟩ := bi_one (b := .int) (f := fun O T => intB T) (fun _ _ _ => rfl) h0
  clear h0
  unfold intB at h
  split at h
  · have := rp_int r; subst_vars
    exact call_int1 pins s σ H _ us Q I rv (.inl ⟨_, rfl, Pc.now h sd (.d (.int _))⟩)
  · have e1 := rp_bl r
    subst e1
    exact call_int1 pins s σ H _ us Q I rv (.inr ⟨_, rfl, Pc.now h sd (.d (.int _))⟩)
  · have := rp_str r; subst_vars
    split at h
    · split at h
      · rename_i e1 e2
        exact call_int_str pins s σ H _ us Q I rv ⟨_, _, rfl, e1, of_decide_eq_true e2, Pc.now h sd (.d (.int _))⟩
      · exact h.elim
    · exact h.elim
  · exact h.elim
theorem cr_str : CallR X (.type "str") (rBi ca l .str) := by
  rintro pins s σ H xs us Q I rv h0
  obtain ⟨x, φ, G, O, T, u, rfl, sd, r, h⟩ := bi_one (b := .str) (f := fun O T => strB T) (fun _ _ _ => rfl) h0
  clear h0
  unfold strB at h
  split at h
  · have := rp_int r; subst_vars
    split at h
    · rename_i i hz
      simp only [Bool.and_eq_true, decide_eq_true_eq] at hz
      refine call_str_int pins s σ H _ us Q I rv ⟨_, rfl, ?_, Pc.now h sd (.d (.str _))⟩
      have h1 : i.natAbs < 2 ^ 200 := by
        have : i.natAbs < 1000000000000000000000000000000000000000000000000000000000000 := by omega
        exact Nat.lt_trans this (by decide)
      by_cases h2 : i.natAbs = 0
      · rw [h2]; decide
      · have := (Nat.log2_lt h2).mpr h1
        omega
    · exact h.elim
  · exact h.elim
theorem cr_abs : CallR X (.builtin "abs") (rBi ca l .abs) := by
  rintro pins s σ H xs us Q I rv h0
  obtain ⟨x, φ, G, O, T, u, rfl, sd, r, h⟩ := bi_one (b := .abs) (f := fun O T => absB T) (fun _ _ _ => rfl) h0
  clear h0
  unfold absB at h
  split at h
  · have := rp_int r; subst_vars
    exact call_abs pins s σ H _ us Q I rv ⟨_, rfl, Pc.now h sd (.d (.int _))⟩
  · exact h.elim
theorem cr_max2 (hc : X.calm = true) : CallR X (.builtin "max") (rBi ca l .max2) := by
  rintro pins s σ H xs us Q I rv h0
  obtain ⟨x, y, φ, G, O, T, u, w, rfl, sd, r1, r2, h⟩ := bi_two (b := .max2) (f := fun O T => max2B T) (fun _ _ _ => rfl) h0
  clear h0
  unfold max2B at h
  split at h
  · have := rp_int r1; have := rp_int r2; subst_vars
    exact call_max2 hc pins s σ H _ us Q I rv ⟨_, _, rfl, Pc.now h sd (.d (.int _))⟩
  · exact h.elim
theorem cr_min2 (hc : X.calm = true) : CallR X (.builtin "min") (rBi ca l .min2) := by
  rintro pins s σ H xs us Q I rv h0
  obtain ⟨x, y, φ, G, O, T, u, w, rfl, sd, r1, r2, h⟩ := bi_two (b := .min2) (f := fun O T => min2B T) (fun _ _ _ => rfl) h0
  clear h0
  unfold min2B at h
  split at h
  · have := rp_int r1; have := rp_int r2; subst_vars
    exact call_min2 hc pins s σ H _ us Q I rv ⟨_, _, rfl, Pc.now h sd (.d (.int _))⟩
  · exact h.elim
def tyS : Ty → String
  | .non => "NoneType" | .bool => "bool" | .int => "int" | .str => "str" | .list => "list" | .tuple => "tuple" | .dict => "dict"
theorem tyU_ok (s : Sd ca φ G H (O ++ T)) {u : U} {v : V} {t : Ty} (r : RpU G φ v u) (e : tyU O T u = some t) : TyX K H v (.type (tyS t)) := by
  unfold tyU at e
  split at e
  · cases e; cases r with | d r => cases r; exact .base .non
  · cases e; cases r with | d r => cases r; exact .base (.bl _)
  · cases e; cases r with | d r => cases r; exact .base (.int _)
  · cases e; cases r with | d r => cases r; exact .base (.str _)
  · cases e
    cases r with
    | d r =>
      cases r with
      | lst h1 h2 =>
        rcases s.ex.rd h1 with h | ⟨o, h⟩
        · exact .base (.lst h)
        · exact .base (.frz h)
  · cases e; cases r with | d r => cases r with | tup h1 h2 => exact .base (.tup (s.ex _ _ h1))
  · cases e; cases r with | tup h1 h2 => exact .base (.tup (s.ex _ _ h1))
  · cases r with
    | ref hi =>
      split at e
      · rename_i hc; cases e; obtain ⟨vs, h1, _⟩ := cell_at s hi hc; exact .base (.lst h1)
      · rename_i hc; cases e; obtain ⟨vs, h1, _⟩ := cell_at s hi hc; exact .base (.lst h1)
      · rename_i hc; cases e; obtain ⟨vs, h1, _⟩ := cell_at s hi hc; exact .base (.dT h1)
      · rename_i hc; cases e; obtain ⟨vs, h1, _⟩ := cell_at s hi hc; exact .base (.dT h1)
      · cases e
  · cases e
theorem kit_tys (a b : Ty) (hb : b ≠ .non) : kitB (tyS a) (tyS b) = some (decide (a = b) || (decide (a = .bool) && decide (b = .int))) := by
  cases b <;> first | exact absurd rfl hb | (cases a <;> decide +kernel)
def isiB : BI → Option Ty
  | .isint => some .int | .isbool => some .bool | .isstr => some .str | .islist => some .list | .istuple => some .tuple | .isdict => some .dict
  | _ => none
theorem isiB_eq {b : BI} {t : Ty} (h : isiB b = some t) (O : Cs) (us : List U) (T : Cs) : biU O l b us T = one us (isB O T t) := by
  cases b <;> first | (cases h; rfl) | cases h
theorem isiB_ne {b : BI} {t : Ty} (h : isiB b = some t) : t ≠ .non := by
  cases b <;> first | (cases h; decide) | cases h
/-- isinstance(x, T) -/
def rIsU (ca : Nat → Addr) (t : Ty) : List V → Hp → VK → Prop := fun xs H Q => ∃ x φ G O T u, xs = [x, .ty (tyS t)] ∧ Sd ca φ G H (O ++ T) ∧ RpU G φ x u ∧ Pc ca rU φ G O (isB O T t u) Q
theorem cr_isi {t : Ty} (ht : t ≠ .non) : CallR X (.builtin "isinstance") (rIsU ca t) := by
  rintro pins s σ H xs us Q I rv ⟨x, φ, G, O, T, u, rfl, sd, r, h⟩
  unfold isB at h
  split at h
  · rename_i a ha
    exact call_isi pins s σ H _ us Q I rv ⟨x, _, _, _, _, rfl, .ty _, tyU_ok sd r ha, kit_ty (kit_tys a t ht), Pc.now h sd (.d (.bl _))⟩
  · exact h.elim
end
end Y

set_option Elab.async false
set_option linter.all false
set_option maxRecDepth 100000
set_option maxHeartbeats 1000000
namespace Y
open PySem PySem.Spec L2
section
variable {ca : Nat → Addr} {φ φ' : List Addr} {G G' H : Hp} {O T : Cs} {X : Cx} {K : PySem.W.Frag} {l : Bool}
/-- a live cell is written: what follows -/
theorem setC_ok {Q : VK} {i : Nat} {a : Addr} {c c' : Cell} {o : HO} (h : Pc ca rU φ G O (setC O T i c') Q) (s : Sd ca φ G H (O ++ T)) (hi : φ[i]? = some a) (hc : getC O T i = some c) (hl : live c) (k : CellOk ca G φ (upd H a o) a c') : Q .non (upd H a o) := by
  unfold setC at h
  split at h
  · rename_i hb
    rw [getC_eq] at hc
    have s' := s.write hi hc hl k
    rw [set_own _ _ _ _ hb.1] at s'
    exact Pc.now h s' (.d .non)
  · exact h.elim
/-- the same, something behind -/
theorem setC_bind {α : Type} {β : Type} {rel : Hp → List Addr → β → α → Prop} {Q : β → Hp → Prop} {i : Nat} {a : Addr} {c c' : Cell} {o : HO} {f : Cs → R α} (h : Pc ca rel φ G O ((setC O T i c').bind fun _ T => f T) Q) (s : Sd ca φ G H (O ++ T)) (hi : φ[i]? = some a) (hc : getC O T i = some c) (hl : live c)
    (k : CellOk ca G φ (upd H a o) a c') : ∃ T', Sd ca φ G (upd H a o) (O ++ T') ∧ Pc ca rel φ G O (f T') Q := by
  unfold setC at h
  split at h
  · rename_i hb
    rw [getC_eq] at hc
    have s' := s.write hi hc hl k
    rw [set_own _ _ _ _ hb.1] at s'
    exact ⟨_, s', h⟩
  · exact h.elim
abbrev rMt (ca : Nat → Addr) (l : Bool) (m : MT) : V → List V → Hp → VK → Prop := rOpM ca fun O u us T => mtU O l m u us T
theorem cellOf_ok {a : Addr} {vs : List V} {us : List U} {H : Hp} (h : H a = some (.lst vs)) (r : RpUs G φ vs us) : CellOk ca G φ H a (cellOf us) := by
  unfold cellOf
  cases e : allD us with
  | none => exact ⟨vs, h, r⟩
  | some ds => exact ⟨vs, h, r.down e⟩
theorem live_lst {ds : List D} : live (.lst ds) := trivial
theorem live_lstU {ds : List U} : live (.lstU ds) := trivial
theorem Rps.app {vs ws : List V} {ds es : List D} (a : Rps G vs ds) (b : Rps G ws es) : Rps G (vs ++ ws) (ds ++ es) := by
  have := (a.up (φ := [])).append (b.up (φ := []))
  rw [← List.map_append] at this
  exact this.downD
theorem Rps.eraseIdx : ∀ {us : List D} {vs : List V} (n : Nat), Rps G vs us → Rps G (vs.eraseIdx n) (us.eraseIdx n)
  | [], _, _, q => by cases q; exact .nil
  | d :: ds, _, 0, q => by cases q with | cons _ h2 => exact h2
  | d :: ds, _, n + 1, q => by cases q with | cons h1 h2 => exact .cons h1 (Rps.eraseIdx n h2)
theorem mt_append' : MtR X "list.append" (rMt ca l .append) := by
  rintro pins s σ H x xs v us Q I rx rv ⟨φ, G, O, T, u, ws, sd, ru, rw_, h⟩
  have h : Pc ca rU φ G O (mtU O l .append u ws T) Q := h
  unfold mtU at h
  split at h
  all_goals try contradiction
  all_goals first | exact h.elim | skip
  obtain ⟨y, rfl, ry⟩ := rw_.one
  cases ru with
  | ref hi =>
    unfold appU at h
    split at h
    · rename_i ds hc
      obtain ⟨vs, h1, h2⟩ := cell_at sd hi hc
      split at h
      · rename_i hz
        have hz := sizeOk_le hz
        rw [← h2.length] at hz
        split at h
        · rename_i x'
          cases ry with
          | d ry => exact mt_append pins s σ H _ _ v us Q I rx rv ⟨_, vs, y, rfl, rfl, h1, sz_lt hz, setC_ok h sd hi hc live_lst ⟨_, upd_same, h2.app (.cons ry .nil)⟩⟩
        · exact mt_append pins s σ H _ _ v us Q I rx rv ⟨_, vs, y, rfl, rfl, h1, sz_lt hz, setC_ok h sd hi hc live_lst ⟨_, upd_same, h2.up.append (.cons ry .nil)⟩⟩
      · exact h.elim
    · rename_i ds hc
      obtain ⟨vs, h1, h2⟩ := cell_at sd hi hc
      split at h
      · rename_i hz
        have hz := sizeOk_le hz
        rw [← h2.length] at hz
        exact mt_append pins s σ H _ _ v us Q I rx rv ⟨_, vs, y, rfl, rfl, h1, sz_lt hz, setC_ok h sd hi hc live_lstU ⟨_, upd_same, h2.append (.cons ry .nil)⟩⟩
      · exact h.elim
    · exact h.elim
theorem mt_extend' : MtR X "list.extend" (rMt ca l .extend) := by
  rintro pins s σ H x xs v us Q I rx rv ⟨φ, G, O, T, u, ws, sd, ru, rw_, h⟩
  have h : Pc ca rU φ G O (mtU O l .extend u ws T) Q := h
  unfold mtU at h
  split at h
  all_goals try contradiction
  all_goals first | exact h.elim | skip
  obtain ⟨y, rfl, ry⟩ := rw_.one
  cases ru with
  | ref hi =>
    split at h
    · rename_i ds zs hc hs
      obtain ⟨vs, h1, h2⟩ := cell_at sd hi hc
      obtain ⟨b, ys, rfl, hb, rb⟩ := seqL_ok sd ry hs
      split at h
      · rename_i hz
        have hz := sizeOk_le hz
        rw [← h2.length, ← rb.length] at hz
        exact mt_extendR pins s σ H _ _ v us Q I rx rv ⟨_, b, vs, ys, rfl, rfl, h1, hb, sz_le hz, setC_ok h sd hi hc live_lst (cellOf_ok upd_same (h2.up.append rb))⟩
      · exact h.elim
    · rename_i ds zs hc hs
      obtain ⟨vs, h1, h2⟩ := cell_at sd hi hc
      obtain ⟨b, ys, rfl, hb, rb⟩ := seqL_ok sd ry hs
      split at h
      · rename_i hz
        have hz := sizeOk_le hz
        rw [← h2.length, ← rb.length] at hz
        exact mt_extendR pins s σ H _ _ v us Q I rx rv ⟨_, b, vs, ys, rfl, rfl, h1, hb, sz_le hz, setC_ok h sd hi hc live_lstU ⟨_, upd_same, h2.append rb⟩⟩
      · exact h.elim
    · exact h.elim
theorem Rps.last {ds : List D} {vs : List V} {x : D} (r : Rps G vs ds) (e : ds.getLast? = some x) : ∃ v, vs[vs.length - 1]? = some v ∧ Rp G v x := by
  rw [List.getLast?_eq_getElem?] at e
  obtain ⟨v, h1, h2⟩ := r.get e
  rw [← r.length] at h1
  exact ⟨v, h1, h2⟩
theorem RpUs.last {ds : List U} {vs : List V} {x : U} (r : RpUs G φ vs ds) (e : ds.getLast? = some x) : ∃ v, vs[vs.length - 1]? = some v ∧ RpU G φ v x := by
  rw [List.getLast?_eq_getElem?] at e
  obtain ⟨v, h1, h2⟩ := r.get e
  rw [← r.length] at h1
  exact ⟨v, h1, h2⟩
theorem Rps.dropLast {ds : List D} {vs : List V} (r : Rps G vs ds) : Rps G vs.dropLast ds.dropLast := by
  have := (r.up (φ := [])).dropLast
  rw [← List.map_dropLast] at this
  exact this.downD
theorem mt_pop' : MtR X "list.pop" (rMt ca l .pop) := by
  rintro pins s σ H x xs v us Q I rx rv ⟨φ, G, O, T, u, ws, sd, ru, rw_, h⟩
  have h : Pc ca rU φ G O (mtU O l .pop u ws T) Q := h
  unfold mtU at h
  split at h
  all_goals try contradiction
  all_goals first | exact h.elim | skip
  cases rw_
  cases ru with
  | ref hi =>
    split at h
    · rename_i ds hc
      obtain ⟨vs, h1, h2⟩ := cell_at sd hi hc
      split at h
      · rename_i x' hl
        obtain ⟨y, e1, e2⟩ := h2.last hl
        obtain ⟨T', s', q⟩ := setC_bind (o := .lst vs.dropLast) h sd hi hc live_lst ⟨_, upd_same, h2.dropLast⟩
        exact mt_pop pins s σ H _ _ v us Q I rx rv ⟨_, vs, y, rfl, rfl, h1, e1, Pc.now q s' (.d e2)⟩
      · exact h.elim
    · rename_i ds hc
      obtain ⟨vs, h1, h2⟩ := cell_at sd hi hc
      split at h
      · rename_i x' hl
        obtain ⟨y, e1, e2⟩ := h2.last hl
        obtain ⟨T', s', q⟩ := setC_bind (o := .lst vs.dropLast) h sd hi hc live_lstU ⟨_, upd_same, h2.dropLast⟩
        exact mt_pop pins s σ H _ _ v us Q I rx rv ⟨_, vs, y, rfl, rfl, h1, e1, Pc.now q s' e2⟩
      · exact h.elim
    · exact h.elim
theorem mt_popAt' : MtR X "list.pop" (rMt ca l .popAt) := by
  rintro pins s σ H x xs v us Q I rx rv ⟨φ, G, O, T, u, ws, sd, ru, rw_, h⟩
  have h : Pc ca rU φ G O (mtU O l .popAt u ws T) Q := h
  unfold mtU at h
  split at h
  all_goals try contradiction
  all_goals first | exact h.elim | skip
  obtain ⟨y, rfl, ry⟩ := rw_.one
  have := rp_int ry; subst_vars
  cases ru with
  | ref hi =>
    split at h
    · rename_i ds hc
      obtain ⟨vs, h1, h2⟩ := cell_at sd hi hc
      split at h
      · rename_i hb
        simp only [Bool.and_eq_true, decide_eq_true_eq] at hb
        split at h
        · rename_i k hk
          split at h
          · rename_i x' hx
            obtain ⟨y, e1, e2⟩ := h2.get hx
            have h3 : Rps G (vs.eraseIdx k) (ds.eraseIdx k) := h2.eraseIdx k
            obtain ⟨T', s', q⟩ := setC_bind (o := .lst (vs.eraseIdx k)) h sd hi hc live_lst ⟨_, upd_same, h3⟩
            rw [← h2.length] at hk
            exact mt_popAt pins s σ H _ _ v us Q I rx rv ⟨_, vs, _, k, y, rfl, rfl, h1, by omega, by omega, hk, e1, Pc.now q s' (.d e2)⟩
          · exact h.elim
        · exact h.elim
      · exact h.elim
    · exact h.elim
theorem mt_insert' : MtR X "list.insert" (rMt ca l .insert) := by
  rintro pins s σ H x xs v us Q I rx rv ⟨φ, G, O, T, u, ws, sd, ru, rw_, h⟩
  have h : Pc ca rU φ G O (mtU O l .insert u ws T) Q := h
  unfold mtU at h
  split at h
  all_goals try contradiction
  all_goals first | exact h.elim | skip
  obtain ⟨y, z, rfl, ry, rz⟩ := rw_.two
  have := rp_int ry; subst_vars
  cases ru with
  | ref hi =>
    split at h
    · rename_i ds hc
      obtain ⟨vs, h1, h2⟩ := cell_at sd hi hc
      split at h
      · rename_i hb
        simp only [Bool.and_eq_true, decide_eq_true_eq] at hb
        have hz := sizeOk_le hb.2
        rw [← h2.length] at hz
        cases rz with
        | d rz =>
          have h3 : ∀ n, Rps G (vs.take n) (ds.take n) := fun n => by
            have := (h2.up (φ := [])).take n
            rw [← List.map_take] at this
            exact this.downD
          have h4 : ∀ n, Rps G (vs.drop n) (ds.drop n) := fun n => by
            have := (h2.up (φ := [])).drop n
            rw [← List.map_drop] at this
            exact this.downD
          exact mt_insert pins s σ H _ _ v us Q I rx rv ⟨_, vs, _, z, rfl, rfl, h1, sz_lt hz, hb.1.1, by omega, setC_ok h sd hi hc live_lst ⟨_, upd_same, ((h3 _).app (.cons rz .nil)).app (h4 _)⟩⟩
      · exact h.elim
    · exact h.elim
theorem mt_reverse' : MtR X "list.reverse" (rMt ca l .reverse) := by
  rintro pins s σ H x xs v us Q I rx rv ⟨φ, G, O, T, u, ws, sd, ru, rw_, h⟩
  have h : Pc ca rU φ G O (mtU O l .reverse u ws T) Q := h
  unfold mtU at h
  split at h
  all_goals try contradiction
  all_goals first | exact h.elim | skip
  cases rw_
  cases ru with
  | ref hi =>
    split at h
    · rename_i ds hc
      obtain ⟨vs, h1, h2⟩ := cell_at sd hi hc
      have h3 : Rps G vs.reverse ds.reverse := by
        have := (h2.up (φ := [])).reverse
        rw [← List.map_reverse] at this
        exact this.downD
      exact mt_reverse pins s σ H _ _ v us Q I rx rv ⟨_, vs, rfl, rfl, h1, setC_ok h sd hi hc live_lst ⟨_, upd_same, h3⟩⟩
    · rename_i ds hc
      obtain ⟨vs, h1, h2⟩ := cell_at sd hi hc
      exact mt_reverse pins s σ H _ _ v us Q I rx rv ⟨_, vs, rfl, rfl, h1, setC_ok h sd hi hc live_lstU ⟨_, upd_same, h2.reverse⟩⟩
    · exact h.elim
theorem mt_clear' : MtR X "list.clear" (rMt ca l .clear) := by
  rintro pins s σ H x xs v us Q I rx rv ⟨φ, G, O, T, u, ws, sd, ru, rw_, h⟩
  have h : Pc ca rU φ G O (mtU O l .clear u ws T) Q := h
  unfold mtU at h
  split at h
  all_goals try contradiction
  all_goals first | exact h.elim | skip
  cases rw_
  cases ru with
  | ref hi =>
    split at h
    · rename_i ds hc
      obtain ⟨vs, h1, h2⟩ := cell_at sd hi hc
      exact mt_clear pins s σ H _ _ v us Q I rx rv ⟨_, vs, rfl, rfl, h1, setC_ok h sd hi hc live_lst ⟨_, upd_same, .nil⟩⟩
    · rename_i ds hc
      obtain ⟨vs, h1, h2⟩ := cell_at sd hi hc
      exact mt_clear pins s σ H _ _ v us Q I rx rv ⟨_, vs, rfl, rfl, h1, setC_ok h sd hi hc live_lstU ⟨_, upd_same, .nil⟩⟩
    · exact h.elim
theorem RpK.getD {ws : List (List Key × V)} {kvs : List (Ky × U)} (k : Ky) (r : RpK G φ ws kvs) {v : V} {u : U} (h : RpU G φ v u) : RpU G φ ((valV ws k).getD v) ((lookK kvs k).getD u) := by
  rcases r.val k with ⟨e1, e2⟩ | ⟨_, _, e1, e2, e3⟩
  · rw [e1, e2]; exact h
  · rw [e1, e2]; exact e3
theorem mt_get1 (hu : X.A.units + 65 < cLine) : MtR X "dict.get" (rMt ca l .get1) := by
  rintro pins s σ H x xs v us Q I rx rv ⟨φ, G, O, T, u, ws, sd, ru, rw_, h⟩
  have h : Pc ca rU φ G O (mtU O l .get1 u ws T) Q := h
  unfold mtU at h
  split at h
  all_goals try contradiction
  all_goals first | exact h.elim | skip
  obtain ⟨y, rfl, ry⟩ := rw_.one
  split at h
  · rename_i kvs k hd hk
    obtain ⟨a, zs, rfl, ha, rk⟩ := dictOf_ok sd ru hd
    obtain ⟨b, rfl, hb⟩ := keyU_ok sd ry hk
    obtain rfl : v = Value.ref a := rx
    obtain ⟨uu, rfl, ruu⟩ := rv.one
    exact d_get1 (by omega) I (DGet.t ha hb) ruu fun w' s' I' rw' => ⟨_, H, I', rw', Pc.now h sd (rk.getD k (.d .non))⟩
  · exact h.elim
theorem vals_two {xs : V} {ys : V} {us : List Value} (r : Vals [xs, ys] us) : ∃ u w, us = [u, w] ∧ RelV xs u ∧ RelV ys w := by
  cases r with
  | cons h t =>
    cases t with
    | cons h2 t => cases t; exact ⟨_, _, rfl, h, h2⟩
theorem mt_get2 (hu : X.A.units + 65 < cLine) : MtR X "dict.get" (rMt ca l .get2) := by
  rintro pins s σ H x xs v us Q I rx rv ⟨φ, G, O, T, u, ws, sd, ru, rw_, h⟩
  have h : Pc ca rU φ G O (mtU O l .get2 u ws T) Q := h
  unfold mtU at h
  split at h
  all_goals try contradiction
  all_goals first | exact h.elim | skip
  obtain ⟨y, z, rfl, ry, rz⟩ := rw_.two
  split at h
  · rename_i kvs k hd hk
    obtain ⟨a, zs, rfl, ha, rk⟩ := dictOf_ok sd ru hd
    obtain ⟨b, rfl, hb⟩ := keyU_ok sd ry hk
    obtain rfl : v = Value.ref a := rx
    obtain ⟨u1, u2, rfl, r1, r2⟩ := vals_two rv
    exact d_get2 (by omega) I (DGet.t ha hb) r1 r2 fun w' s' I' rw' => ⟨_, H, I', rw', Pc.now h sd (rk.getD k rz)⟩
  · exact h.elim
theorem mt_join' : MtR X "str.join" (rMt ca l .join) := by
  rintro pins s σ H x xs v us Q I rx rv ⟨φ, G, O, T, u, ws, sd, ru, rw_, h⟩
  have h : Pc ca rU φ G O (mtU O l .join u ws T) Q := h
  unfold mtU at h
  split at h
  all_goals try contradiction
  all_goals first | exact h.elim | skip
  obtain ⟨y, rfl, ry⟩ := rw_.one
  have := rp_str ru; subst_vars
  split at h
  · rename_i ds hs
    obtain ⟨zs, e1, e2⟩ := Option.bind_eq_some_iff.mp hs
    obtain ⟨a, vs, rfl, ha, ra⟩ := seqA_ok sd ry e1
    split at h
    · rename_i ts ht
      have e3 := strsOf_ok (ra.down e2) ht
      subst e3
      split at h
      · rename_i hz
        have hz := sizeOk_le hz
        exact mt_join pins s σ H _ _ v us Q I rx rv ⟨_, a, ts, rfl, rfl, ha.elim (fun z => .inl (.inl z)) (fun z => .inr (.inl (.inl z))), by omega, Pc.now h sd (.d (.str _))⟩
      · exact h.elim
    · exact h.elim
  · exact h.elim
theorem strs_rp (ss : List Str) : RpUs G φ (ss.map V.str) (ss.map fun x => .d (.str x)) := by
  induction ss with
  | nil => exact .nil
  | cons a r ih => exact .cons (.d (.str _)) ih
theorem mt_split' : MtR X "str.split" (rMt ca l .split) := by
  rintro pins s σ H x xs v us Q I rx rv ⟨φ, G, O, T, u, ws, sd, ru, rw_, h⟩
  have h : Pc ca rU φ G O (mtU O l .split u ws T) Q := h
  unfold mtU at h
  split at h
  all_goals try contradiction
  all_goals first | exact h.elim | skip
  obtain ⟨y, rfl, ry⟩ := rw_.one
  have := rp_str ru
  have := rp_str ry
  subst_vars
  split at h
  · rename_i hz
    simp only [Bool.and_eq_true, Bool.not_eq_true'] at hz
    have hz1 := sizeOk_le hz.1
    have e : (16777216 : Nat) = sizeLine := by decide
    refine mt_split pins s σ H _ _ v us Q I rx rv ⟨_, _, rfl, rfl, hz.2, by omega, fun p np => mkL_ok h sd (strs_rp _) np⟩
  · exact h.elim
theorem mt_sindex' : MtR X "str.index" (rMt ca l .sindex) := by
  rintro pins s σ H x xs v us Q I rx rv ⟨φ, G, O, T, u, ws, sd, ru, rw_, h⟩
  have h : Pc ca rU φ G O (mtU O l .sindex u ws T) Q := h
  unfold mtU at h
  split at h
  all_goals try contradiction
  all_goals first | exact h.elim | skip
  obtain ⟨y, rfl, ry⟩ := rw_.one
  have := rp_str ru
  have := rp_str ry
  subst_vars
  split at h
  · rename_i i rest ho
    exact mt_sindex pins s σ H _ _ v us Q I rx rv ⟨_, _, i, rest, rfl, rfl, ho, Pc.now h sd (.d (.int _))⟩
  · exact h.elim
end
end Y

set_option Elab.async false
set_option linter.all false
set_option maxRecDepth 100000
set_option maxHeartbeats 1000000
namespace Y
open PySem PySem.Spec L2
section
variable {ca : Nat → Addr} {φ φ' φ0 : List Addr} {G G' G0 H : Hp} {O T : Cs} {X : Cx} {K : PySem.W.Frag} {C : Cn} {σ : L2.St} {ρ : Rho} {D : Ends} {pos : Pos}
mutual
theorem beqD_eq : ∀ (a b : Y.D), beqD a b = true → a = b
  | .none, b, h => by cases b <;> simp_all [beqD]
  | .bool x, b, h => by cases b <;> simp_all [beqD]
  | .int x, b, h => by cases b <;> simp_all [beqD]
  | .str x, b, h => by cases b <;> simp_all [beqD]
  | .list x, b, h => by
    cases b <;> simp only [beqD, Bool.false_eq_true] at h
    rw [beqDs_eq _ _ h]
  | .tuple x, b, h => by
    cases b <;> simp only [beqD, Bool.false_eq_true] at h
    rw [beqDs_eq _ _ h]
  | .dict x, b, h => by
    cases b <;> simp only [beqD, Bool.false_eq_true] at h
    rw [beqDp_eq _ _ h]
theorem beqDp_eq : ∀ (a b : List (Y.D × Y.D)), beqDp a b = true → a = b
  | [], b, h => by cases b <;> simp_all [beqDp]
  | (a, x) :: xs, b, h => by
    cases b <;> simp only [beqDp, Bool.false_eq_true, Bool.and_eq_true] at h
    rw [beqD_eq _ _ h.1.1, beqD_eq _ _ h.1.2, beqDp_eq _ _ h.2]
theorem beqDs_eq : ∀ (a b : List Y.D), beqDs a b = true → a = b
  | [], b, h => by cases b <;> simp_all [beqDs]
  | x :: xs, b, h => by
    cases b <;> simp only [beqDs, Bool.false_eq_true, Bool.and_eq_true] at h
    rw [beqD_eq _ _ h.1, beqDs_eq _ _ h.2]
end
mutual
theorem beqU_eq : ∀ (a b : U), beqU a b = true → a = b
  | .d x, b, h => by
    cases b <;> simp only [beqU, Bool.false_eq_true] at h
    rw [beqD_eq _ _ h]
  | .ref x, b, h => by cases b <;> simp_all [beqU]
  | .tup x, b, h => by
    cases b <;> simp only [beqU, Bool.false_eq_true] at h
    rw [beqUs_eq _ _ h]
theorem beqUs_eq : ∀ (a b : List U), beqUs a b = true → a = b
  | [], b, h => by cases b <;> simp_all [beqUs]
  | x :: xs, b, h => by
    cases b <;> simp only [beqUs, Bool.false_eq_true, Bool.and_eq_true] at h
    rw [beqU_eq _ _ h.1, beqUs_eq _ _ h.2]
end
theorem beqDk_eq : ∀ (a b : List (Ky × Y.D)), beqDk a b = true → a = b
  | [], b, h => by cases b <;> simp_all [beqDk]
  | (k, x) :: xs, b, h => by
    cases b <;> simp only [beqDk, Bool.false_eq_true, Bool.and_eq_true, decide_eq_true_eq] at h
    rw [h.1.1, beqD_eq _ _ h.1.2, beqDk_eq _ _ h.2]
theorem beqUk_eq : ∀ (a b : List (Ky × U)), beqUk a b = true → a = b
  | [], b, h => by cases b <;> simp_all [beqUk]
  | (k, x) :: xs, b, h => by
    cases b <;> simp only [beqUk, Bool.false_eq_true, Bool.and_eq_true, decide_eq_true_eq] at h
    rw [h.1.1, beqU_eq _ _ h.1.2, beqUk_eq _ _ h.2]
theorem beqC_eq : ∀ (a b : Cell), beqC a b = true → a = b
  | .lst x, b, h => by cases b <;> simp only [beqC, Bool.false_eq_true] at h; rw [beqDs_eq _ _ h]
  | .lstU x, b, h => by cases b <;> simp only [beqC, Bool.false_eq_true] at h; rw [beqUs_eq _ _ h]
  | .dct x, b, h => by cases b <;> simp only [beqC, Bool.false_eq_true] at h; rw [beqDk_eq _ _ h]
  | .dctU x, b, h => by cases b <;> simp only [beqC, Bool.false_eq_true] at h; rw [beqUk_eq _ _ h]
  | .ins _ _, b, h => by cases b <;> simp [beqC] at h
  | .dead, b, h => by cases b <;> simp [beqC] at h
theorem beqFs_eq : ∀ (a b : List (Str × U)), beqFs a b = true → a = b
  | [], b, h => by cases b <;> simp_all [beqFs]
  | (k, x) :: xs, b, h => by
    cases b <;> simp only [beqFs, Bool.false_eq_true, Bool.and_eq_true, decide_eq_true_eq] at h
    rw [h.1.1, beqU_eq _ _ h.1.2, beqFs_eq _ _ h.2]
theorem beqA_eq : ∀ (a b : Cell), beqA a b = true → a = b
  | .lst x, b, h => by cases b <;> simp only [beqA, Bool.false_eq_true] at h; rw [beqDs_eq _ _ h]
  | .lstU x, b, h => by cases b <;> simp only [beqA, Bool.false_eq_true] at h; rw [beqUs_eq _ _ h]
  | .dct x, b, h => by cases b <;> simp only [beqA, Bool.false_eq_true] at h; rw [beqDk_eq _ _ h]
  | .dctU x, b, h => by cases b <;> simp only [beqA, Bool.false_eq_true] at h; rw [beqUk_eq _ _ h]
  | .ins c x, b, h => by
    cases b <;> simp only [beqA, Bool.false_eq_true, Bool.and_eq_true, decide_eq_true_eq] at h
    rw [h.1, beqFs_eq _ _ h.2]
  | .dead, b, h => by cases b <;> simp_all [beqA]
theorem beqCs_eq : ∀ (a b : Cs), beqCs a b = true → a = b
  | [], b, h => by cases b <;> simp_all [beqCs]
  | x :: xs, b, h => by
    cases b <;> simp only [beqCs, Bool.false_eq_true, Bool.and_eq_true] at h
    rw [beqA_eq _ _ h.1, beqCs_eq _ _ h.2]
theorem sameW_eq {T' : Cs} {i : Nat} {c : Cell} (h : sameW O T T' (some i) = true) (e : getC O T i = some c) : getC O T' i = some c := by
  unfold sameW at h
  simp only [e] at h
  cases e' : getC O T' i with
  | none => rw [e'] at h; cases h
  | some c' => rw [e'] at h; rw [beqC_eq _ _ h]
mutual
def slotsT : Tg → List Nat
  | .nm i => [i]
  | .tp ts => slotsTs ts
  | .lp ts => slotsTs ts
def slotsTs : Tgs → List Nat
  | .nil => []
  | .cons t ts => slotsT t ++ slotsTs ts
end
/-- the same but for some slots -/
def SameBut (is : List Nat) (σ σ' : L2.St) : Prop := ∀ vs : List Nat, (∀ i ∈ is, i ∈ vs) → wipe σ' vs = wipe σ vs
theorem wipe_set_ne {σ : L2.St} {i : Nat} {x : Option V} : ∀ {vs : List Nat}, i ∉ vs → wipe (σ.set i x) vs = (wipe σ vs).set i x
  | [], _ => rfl
  | v :: vs, h => by
    unfold wipe
    rw [wipe_set_ne (fun z => h (List.mem_cons_of_mem _ z)), List.set_comm _ _ (fun e => h (by rw [e]; exact List.mem_cons_self))]
theorem wipe_set {σ : L2.St} {i : Nat} {x : Option V} : ∀ {vs : List Nat}, i ∈ vs → wipe (σ.set i x) vs = wipe σ vs
  | [], h => by simp at h
  | v :: vs, h => by
    unfold wipe
    by_cases hv : i ∈ vs
    · rw [wipe_set hv]
    · have e : i = v := by
        rcases List.mem_cons.mp h with e | e
        · exact e
        · exact absurd e hv
      subst e
      rw [wipe_set_ne hv, List.set_set]
theorem SameBut.refl {is : List Nat} {σ : L2.St} : SameBut is σ σ := fun _ _ => rfl
theorem SameBut.trans {is js : List Nat} {σ σ1 σ2 : L2.St} (a : SameBut is σ σ1) (b : SameBut js σ1 σ2) : SameBut (is ++ js) σ σ2 := fun vs h => (b vs fun i hi => h i (List.mem_append_right _ hi)).trans (a vs fun i hi => h i (List.mem_append_left _ hi))
def RG (ca : Nat → Addr) (tg : Tg) : L2.TG := fun v σ H Q => ∃ φ G O ρ T u, At ca φ G H O T σ ρ ∧ RpU G φ v u ∧ match asgT O T tg u ρ with
  | some ρ' => ∀ σ', At ca φ G H O T σ' ρ' → SameBut (slotsT tg) σ σ' → Q σ' H
  | none => False
def RGs (ca : Nat → Addr) (tg : Tgs) : L2.TGs := fun vs σ H Q => ∃ φ G O ρ T us, At ca φ G H O T σ ρ ∧ RpUs G φ vs us ∧ match asgTs O T tg us ρ with
  | some ρ' => ∀ σ', At ca φ G H O T σ' ρ' → SameBut (slotsTs tg) σ σ' → Q σ' H
  | none => False
theorem At.set (t : At ca φ G H O T σ ρ) {v : V} {u : U} (r : RpU G φ v u) (i : Nat) : At ca φ G H O T (σ.set i (some v)) (ρ.set i (some u)) := by
  refine ⟨t.s, fun j w h => ?_, by simp [t.n]⟩
  by_cases e : i = j
  · subst e
    have lt : i < ρ.length := by
      have := (List.getElem?_eq_some_iff.mp h).1
      simpa using this
    rw [List.getElem?_set_self lt] at h
    cases h
    exact ⟨v, List.getElem?_set_self (by rw [t.n]; exact lt), r⟩
  · rw [List.getElem?_set_ne e] at h
    obtain ⟨v', h1, h2⟩ := t.l j w h
    exact ⟨v', by rw [List.getElem?_set_ne e]; exact h1, h2⟩
theorem pg_nm {i : Nat} {x : Str} (hN : X.N.Nodup) (hi : X.N[i]? = some x) (hx : Loc X.env.scope x) (hf : X.fn x = true ∨ X.env.scope.names.lookup x = some .local) : PG X (.Name x pos) (RG ca (.nm i)) := by
  refine (pg_name hN hi hx hf).imp ?_
  rintro v σ H Q ⟨φ, G, O, ρ, T, u, t, r, h⟩
  exact h _ (t.set r i) fun vs hi => wipe_set (hi i (by simp [slotsT]))
theorem pgs_nl : PGs X [] (RGs ca .nil) := by
  refine ⟨fun pins s σ H vs us Q I r h => pgs_nil.run pins s σ H vs us Q I r ?_⟩
  obtain ⟨φ, G, O, ρ, T, us', t, r', h⟩ := h
  cases us' with
  | nil => cases r'; exact ⟨rfl, h _ t SameBut.refl⟩
  | cons _ _ => exact h.elim
theorem pgs_cn {e : Expr} {es : List Expr} {tg : Tg} {tgs : Tgs} (h1 : PG X e (RG ca tg)) (h2 : PGs X es (RGs ca tgs)) (hs : (assignEach (e :: es) X.env).map (·.2) = assign e X.env :: (assignEach es X.env).map (·.2)) : PGs X (e :: es) (RGs ca (.cons tg tgs)) := by
  refine ⟨fun pins s σ H vs us Q I r h => (pgs_cons h1 h2 hs).run pins s σ H vs us Q I r ?_⟩
  obtain ⟨φ, G, O, ρ, T, us', t, r', h⟩ := h
  cases us' with
  | nil => exact h.elim
  | cons u us' =>
    cases r' with
    | cons r1 r2 =>
      refine ⟨_, _, rfl, φ, G, O, ρ, T, u, t, r1, ?_⟩
      rw [asgTs] at h
      cases e : asgT O T tg u ρ with
      | none => rw [e] at h; exact h.elim
      | some ρ' =>
        rw [e] at h
        refine fun σ' t' sb => ⟨φ, G, O, ρ', T, us', t', r2, ?_⟩
        cases e2 : asgTs O T tgs us' ρ' with
        | none => simp only [e2] at h
        | some ρ2 => simp only [e2] at h; exact fun σ2 t2 sb2 => h σ2 t2 (sb.trans sb2)
theorem pg_tp {es : List Expr} {k : Nat} {tgs : Tgs} {n : Nat} (hc : X.calm = true) (h : PGs X es (RGs ca tgs)) (hn : (assignEach es X.env).length = n) (hst : (assignEach es X.env).findIdx? (·.1) = none)
    (hlen : ∀ (O T : Cs) us ρ ρ', asgTs O T tgs us ρ = some ρ' → us.length = n) : PG X (.Tuple es k pos) (RG ca (.tp tgs)) := by
  refine (pg_tup hc h hn hst).imp ?_
  rintro v σ H Q ⟨φ, G, O, ρ, T, u, t, r, h⟩
  rw [asgT] at h
  cases e : seqT u with
  | none => rw [e] at h; exact h.elim
  | some us =>
    rw [e] at h
    obtain ⟨a, vs, rfl, ha, ra⟩ := seqT_ok t.s r e
    refine ⟨a, vs, rfl, .inl (.inl ha), ?_, φ, G, O, ρ, T, us, t, ra, h⟩
    cases e2 : asgTs O T tgs us ρ with
    | none => have h' : (match asgTs O T tgs us ρ with | some ρ' => ∀ σ', At ca φ G H O T σ' ρ' → SameBut (slotsTs tgs) σ σ' → Q σ' H | none => False) := h; rw [e2] at h'; exact h'.elim
    | some ρ' => rw [ra.length]; exact hlen _ _ _ _ _ e2
def PF (ca : Nat → Addr) (φ : List Addr) (G : Hp) (O : Cs) (r : F) (D : Ends) : Prop := match r with
  | .nx ρ T => ∀ σ φ' G' H', Fut φ G φ' G' → At ca φ' G' H' O T σ ρ → D.nx σ H'
  | .rt u T => ∀ v φ' G' H', Fut φ G φ' G' → Sd ca φ' G' H' (O ++ T) → RpU G' φ' v u → D.rt v H'
  | .bk ρ T => ∀ σ φ' G' H', Fut φ G φ' G' → At ca φ' G' H' O T σ ρ → D.bk σ H'
  | .ct ρ T => ∀ σ φ' G' H', Fut φ G φ' G' → At ca φ' G' H' O T σ ρ → D.ct σ H'
  | .exc _ _ _ _ => False
  | .fail => False
theorem PF.later {r : F} (f : Fut φ G φ' G') (h : PF ca φ G O r D) : PF ca φ' G' O r D := by
  cases r with
  | nx ρ T => exact fun σ φ2 G2 H2 f2 t => h σ φ2 G2 H2 (f.trans f2) t
  | rt u T => exact fun v φ2 G2 H2 f2 s r => h v φ2 G2 H2 (f.trans f2) s r
  | bk ρ T => exact fun σ φ2 G2 H2 f2 t => h σ φ2 G2 H2 (f.trans f2) t
  | ct ρ T => exact fun σ φ2 G2 H2 f2 t => h σ φ2 G2 H2 (f.trans f2) t
  | exc => exact h
  | fail => exact h
def RS (ca : Nat → Addr) (C : Cn) (c : CS) : TS := fun D σ H => ∃ φ G O ρ T, At ca φ G H O T σ ρ ∧ PF ca φ G O (denS C O c ρ T) D
def RBl (ca : Nat → Addr) (C : Cn) (c : CB) : TS := fun D σ H => ∃ φ G O ρ T, At ca φ G H O T σ ρ ∧ PF ca φ G O (denB C O c ρ T) D
/-- a value, then the rest of a statement -/
theorem PF.of {r : R U} {k : U → Cs → F} (h : PF ca φ G O (F.of ρ r k) D) : Pc ca rU φ G O r (fun v H' => Mid ca rU φ G O v H' fun u T' φ' G' => PF ca φ' G' O (k u T') D) := by
  cases r with
  | ok u T =>
    have h : PF ca φ G O (k u T) D := h
    exact fun b φ2 G2 H2 f2 s r => ⟨φ2, G2, T, u, f2, s, r, h.later f2⟩
  | exc => exact h
  | fail => exact h
theorem pss_nl : PSs X [] (RBl ca C .nil) := pss_nil.imp fun D σ H => by
  rintro ⟨φ, G, O, ρ, T, t, h⟩
  rw [denB] at h
  exact h σ φ G H Fut.refl t
theorem pss_cn {st : Stmt} {sts : List Stmt} {c : CS} {b : CB} (h1 : PS X st (RS ca C c)) (h2 : PSs X sts (RBl ca C b)) : PSs X (st :: sts) (RBl ca C (.cons c b)) := (pss_cons h1 h2).imp fun D σ H => by
  rintro ⟨φ, G, O, ρ, T, t, h⟩
  rw [denB] at h
  refine ⟨φ, G, O, ρ, T, t, ?_⟩
  cases e : denS C O c ρ T with
  | nx ρ' T' =>
    rw [e] at h
    exact fun σ' φ' G' H' f t' => ⟨φ', G', O, ρ', T', t', h.later f⟩
  | rt u T' => rw [e] at h; exact h
  | bk ρ T => rw [e] at h; exact h
  | ct ρ T => rw [e] at h; exact h
  | exc => rw [e] at h; exact h
  | fail => rw [e] at h; exact h
theorem ps_as {tg e : Expr} {g : Tg} {c : CE} (he : PE X e (RE ca C c)) (hg : PG X tg (RG ca g)) (hs : swapsWithSole [tg] e pos.line X.env = pure false) (hw : swappedStores [tg] e X.env = pure none) (hm : (assignEach [tg] X.env).map (·.2) = [assign tg X.env]) : PS X (.Assign [tg] e pos) (RS ca C (.asg g c)) :=
  (ps_asg he hg hs hw hm).imp fun D σ H => by
    rintro ⟨φ, G, O, ρ, T, t, h⟩
    rw [denS] at h
    refine ⟨φ, G, O, ρ, T, t, Pc.imp h.of ?_⟩
    rintro v H1 ⟨φ1, G1, T1, u, f1, s1, r1, h1⟩
    refine ⟨φ1, G1, O, ρ, T1, u, ⟨s1, f1.lo t.l, t.n⟩, r1, ?_⟩
    cases e : asgT O T1 g u ρ with
    | none => rw [e] at h1; exact h1
    | some ρ' => rw [e] at h1; exact fun σ' t' _ => h1 σ' φ1 G1 H1 Fut.refl t'
theorem ps_ex {e : Expr} {c : CE} (he : PE X e (RE ca C c)) (hs : swapsWith e none pos.line X.env = pure false) : PS X (.Expr e pos) (RS ca C (.ex c)) := (ps_expr he hs).imp fun D σ H => by
  rintro ⟨φ, G, O, ρ, T, t, h⟩
  rw [denS] at h
  refine ⟨φ, G, O, ρ, T, t, Pc.imp h.of ?_⟩
  rintro v H1 ⟨φ1, G1, T1, u, f1, s1, r1, h1⟩
  exact h1 σ φ1 G1 H1 Fut.refl ⟨s1, f1.lo t.l, t.n⟩
theorem ps_rt {e : Expr} {c : CE} (he : PE X e (RE ca C c)) : PS X (.Return (some e) pos) (RS ca C (.ret c)) := (ps_ret he).imp fun D σ H => by
  rintro ⟨φ, G, O, ρ, T, t, h⟩
  rw [denS] at h
  refine ⟨φ, G, O, ρ, T, t, Pc.imp h.of ?_⟩
  rintro v H1 ⟨φ1, G1, T1, u, f1, s1, r1, h1⟩
  exact h1 v φ1 G1 H1 Fut.refl s1 r1
theorem ps_rtN : PS X (.Return none pos) (RS ca C .retN) := ps_retN.imp fun D σ H => by
  rintro ⟨φ, G, O, ρ, T, t, h⟩
  rw [denS] at h
  exact h .non φ G H Fut.refl t.s (.d .non)
theorem ps_br : PS X (.Break pos) (RS ca C .brk) := ps_break.imp fun D σ H => by
  rintro ⟨φ, G, O, ρ, T, t, h⟩
  rw [denS] at h
  exact h σ φ G H Fut.refl t
theorem ps_ct : PS X (.Continue pos) (RS ca C .cnt) := ps_continue.imp fun D σ H => by
  rintro ⟨φ, G, O, ρ, T, t, h⟩
  rw [denS] at h
  exact h σ φ G H Fut.refl t
theorem ps_pa : PS X (.Pass pos) (RS ca C .pass) := ps_pass.imp fun D σ H => by
  rintro ⟨φ, G, O, ρ, T, t, h⟩
  rw [denS] at h
  exact h σ φ G H Fut.refl t
theorem ps_bd {st : Stmt} : PS X st (RS ca C .bad) := ps_never.imp fun D σ H => by
  rintro ⟨φ, G, O, ρ, T, t, h⟩
  rw [denS] at h
  exact h
/-- a test, then one of two blocks -/
theorem PF.br {r : R U} {k : Bool → Cs → F} (h : PF ca φ G O (F.of ρ r fun x T => match asB x with | some true => k true T | some false => k false T | none => .fail) D) :
    Pc ca rB φ G O (tst r) (fun b H' => Mid ca rB φ G O b H' fun a T' φ' G' => PF ca φ' G' O (k a T') D) := by
  cases r with
  | ok u T =>
    have h : PF ca φ G O (match asB u with | some true => k true T | some false => k false T | none => .fail) D := h
    show Pc ca rB φ G O (R.ofO T (asB u)) _
    cases e : asB u with
    | none => rw [e] at h; exact h
    | some b =>
      rw [e] at h
      intro b' φ2 G2 H2 f2 s r
      have r : b' = b := r
      subst r
      refine ⟨φ2, G2, T, b', f2, s, rfl, ?_⟩
      cases b' <;> exact h.later f2
  | exc => exact h
  | fail => exact h
theorem ps_it {t : Expr} {a b : List Stmt} {ct : CE} {cx cy : CB} (ht : PT X t (RT ca C ct)) (ha : PSs X a (RBl ca C cx)) (hb : PSs X b (RBl ca C cy)) : PS X (.If t a b pos) (RS ca C (.ite ct cx cy)) := (ps_if ht ha hb).imp fun D σ H => by
  rintro ⟨φ, G, O, ρ, T, t, h⟩
  rw [denS] at h
  refine ⟨φ, G, O, ρ, T, t, Pc.imp (PF.br (k := fun b T => if b = true then denB C O cx ρ T else denB C O cy ρ T) h) ?_⟩
  rintro k H1 ⟨φ1, G1, T1, u, f1, s1, r1, h1⟩
  have r1 : k = u := r1
  subst r1
  cases k with
  | true => exact ⟨φ1, G1, O, ρ, T1, ⟨s1, f1.lo t.l, t.n⟩, h1⟩
  | false => exact ⟨φ1, G1, O, ρ, T1, ⟨s1, f1.lo t.l, t.n⟩, h1⟩
theorem loopW_s (test : Rho → Cs → R U) (body : Rho → Cs → F) (n : Nat) (ρ : Rho) (T : Cs) : loopW test body (n + 1) ρ T = F.of ρ (test ρ T) fun b T => match asB b with
    | some true => (match body ρ T with
      | .nx ρ' T' => loopW test body n ρ' T' | .ct ρ' T' => loopW test body n ρ' T'
      | .bk ρ' T' => .nx ρ' T'
      | .rt u T' => .rt u T' | .exc c fs ρ T => .exc c fs ρ T | .fail => .fail)
    | some false => .nx ρ T
    | none => .fail := by
  rw [loopW]
  congr 1
  funext b T
  cases asB b with
  | none => rfl
  | some k =>
    cases k with
    | false => rfl
    | true => cases e : body ρ T <;> simp only [e]
theorem ps_wh {t : Expr} {b : List Stmt} {ct : CE} {cb : CB} {n : Nat} (hp : PassesOwn (model X.prog X.w) X.A X.env X.xe) (ht : PT X t (RT ca C ct)) (hb : PSs X b (RBl ca C cb)) : PS X (.While t b [] pos) (RS ca C (.wh n ct cb)) := (ps_while hp ht hb).imp fun D σ H => by
  rintro ⟨φ, G, O, ρ, T, t, h⟩
  rw [denS] at h
  refine ⟨fun m σ H => ∃ φ G ρ T, At ca φ G H O T σ ρ ∧ PF ca φ G O (loopW (fun ρ T => den C O ρ ct T) (fun ρ T => denB C O cb ρ T) m ρ T) D, ⟨n, φ, G, ρ, T, t, h⟩, ?_⟩
  rintro m σ H ⟨φ, G, ρ, T, t, h⟩
  cases m with
  | zero => exact h.elim
  | succ m =>
    rw [loopW_s] at h
    refine ⟨φ, G, O, ρ, T, t, Pc.imp (PF.br (k := fun k T => if k = true then (match denB C O cb ρ T with
      | .nx ρ' T' => loopW (fun ρ T => den C O ρ ct T) (fun ρ T => denB C O cb ρ T) m ρ' T' | .ct ρ' T' => loopW (fun ρ T => den C O ρ ct T) (fun ρ T => denB C O cb ρ T) m ρ' T'
      | .bk ρ' T' => .nx ρ' T'
      | .rt u T' => .rt u T' | .exc c fs ρ T => .exc c fs ρ T | .fail => .fail) else .nx ρ T) h) ?_⟩
    rintro k H1 ⟨φ1, G1, T1, u, f1, s1, r1, h1⟩
    have r1 : k = u := r1
    subst r1
    have t1 : At ca φ1 G1 H1 O T1 σ ρ := ⟨s1, f1.lo t.l, t.n⟩
    cases k with
    | false => exact h1 σ φ1 G1 H1 Fut.refl t1
    | true =>
      rw [if_pos rfl] at h1 ⊢
      refine ⟨_, fun σ' H' hh => ⟨m, Nat.lt_succ_self m, hh⟩, φ1, G1, O, ρ, T1, t1, ?_⟩
      cases e : denB C O cb ρ T1 with
      | nx ρ' T' => rw [e] at h1; exact fun σ' φ' G' H' f t' => ⟨φ', G', ρ', T', t', h1.later f⟩
      | ct ρ' T' => rw [e] at h1; exact fun σ' φ' G' H' f t' => ⟨φ', G', ρ', T', t', h1.later f⟩
      | bk ρ' T' => rw [e] at h1; exact h1
      | rt u T' => rw [e] at h1; exact h1
      | exc => rw [e] at h1; exact h1
      | fail => rw [e] at h1; exact h1
def JOk (ca : Nat → Addr) (J : It) (its : Its) (φ0 : List Addr) (G0 : Hp) (O : Cs) : Prop := ∀ φ G H T, Fut φ0 G0 φ G → Sd ca φ G H (O ++ T) → sameW O its.t T its.w = true →
  (∀ (i : Nat) (u : U), its.us[i]? = some u → J.go i H ∧ ∀ x H', J.yld i H x H' → Ex H H' ∧ ∃ G', Fut φ G φ G' ∧ Sd ca φ G' H' (O ++ T) ∧ RpU G' φ x u) ∧ J.stop its.us.length H
def IOk (ca : Nat → Addr) (φ : List Addr) (G : Hp) (O : Cs) (r : R Its) (K : It → Hp → Prop) : Prop := match r with
  | .ok its T0 => ∀ J φ' G' H', Fut φ G φ' G' → Sd ca φ' G' H' (O ++ T0) → JOk ca J its φ' G' O → K J H'
  | .exc _ _ _ => False
  | .fail => False
theorem IOk.later {r : R Its} {K : It → Hp → Prop} (f : Fut φ G φ' G') (h : IOk ca φ G O r K) : IOk ca φ' G' O r K := by
  cases r with
  | ok its T0 => exact fun J φ2 G2 H2 f2 s2 j => h J φ2 G2 H2 (f.trans f2) s2 j
  | exc => exact h
  | fail => exact h
def RI (ca : Nat → Addr) (C : Cn) (it : IT) : TI := fun σ H R => ∃ φ G O ρ T, At ca φ G H O T σ ρ ∧ IOk ca φ G O (denI C O ρ it T) R
theorem _root_.L2.PI.imp {X : Cx} {tg e : Expr} {t t' : TI} (h : PI X tg e t) (k : ∀ σ H Q, t' σ H Q → t σ H Q) : PI X tg e t' := ⟨fun pins s σ H R I q => h.run pins s σ H R I (k σ H R q)⟩
theorem loopF_c (body : U → Rho → Cs → F) (ok : Cs → Bool) (u : U) (us : List U) (ρ : Rho) (T : Cs) (h : ok T = true) : loopF body ok (u :: us) ρ T = match body u ρ T with
      | .nx ρ' T' => loopF body ok us ρ' T' | .ct ρ' T' => loopF body ok us ρ' T'
      | .bk ρ' T' => .nx ρ' T'
      | .rt u T' => .rt u T' | .exc c fs ρ T => .exc c fs ρ T | .fail => .fail := by
  rw [loopF, if_pos h]
  cases e : body u ρ T <;> simp only [e]
theorem ps_fo {tg e : Expr} {b : List Stmt} {g : Tg} {it : IT} {cb : CB} (hp : PassesOwn (model X.prog X.w) X.A X.env X.xe) (hc : X.calm = true) (hi : PI X tg e (RI ca C it)) (hg : PG X tg (RG ca g)) (hb : PSs X b (RBl ca C cb))
    (hs : ∀ x, foldedSetIterable e X.env x = pure x) : PS X (.For tg e b [] pos) (RS ca C (.for_ g it cb)) := (ps_for hp hc hi hg hb hs).imp fun D σ H => by
  rintro ⟨φ, G, O, ρ, T, t, h⟩
  rw [denS] at h
  refine ⟨φ, G, O, ρ, T, t, ?_⟩
  cases ei : denI C O ρ it T with
  | exc => rw [ei] at h; exact h
  | fail => rw [ei] at h; exact h
  | ok its T0 =>
    rw [ei] at h
    intro J φ1 G1 H1 f1 s1 jok
    generalize hbd : (fun u ρ T => match asgT O T g u ρ with
        | some ρ' => denB C O cb ρ' T
        | none => F.fail) = bd at h
    refine ⟨fun i m σ H => ∃ φ G ρ T, Fut φ1 G1 φ G ∧ At ca φ G H O T σ ρ ∧ m = its.us.length - i ∧ i ≤ its.us.length ∧ PF ca φ G O (loopF bd (fun T' => sameW O its.t T' its.w) (its.us.drop i) ρ T) D,
      ⟨its.us.length, φ1, G1, ρ, T0, Fut.refl, ⟨s1, f1.lo t.l, t.n⟩, rfl, Nat.zero_le _, h.later f1⟩, ?_⟩
    rintro i m σ H ⟨φ, G, ρ, T, f, t, rfl, hi, h⟩
    by_cases hlt : i < its.us.length
    · rw [List.drop_eq_getElem_cons hlt] at h
      by_cases hw : sameW O its.t T its.w = true
      · rw [loopF_c _ _ _ _ _ _ hw] at h
        have jj := (jok φ G H T f t.s hw).1 i its.us[i] (List.getElem?_eq_getElem hlt)
        refine .inr ⟨jj.1, fun σ' H' => ∃ φ G ρ T, Fut φ1 G1 φ G ∧ At ca φ G H' O T σ' ρ ∧ PF ca φ G O (loopF bd (fun T' => sameW O its.t T' its.w) (its.us.drop (i + 1)) ρ T) D,
          fun σ' H' hh => ⟨its.us.length - (i + 1), by omega, ?_⟩, fun x H' hy => ?_⟩
        · obtain ⟨φ2, G2, ρ2, T2, a, b, c⟩ := hh
          exact ⟨φ2, G2, ρ2, T2, a, b, rfl, hlt, c⟩
        · obtain ⟨_, G2, f2, s2, r2⟩ := jj.2 x H' hy
          refine ⟨φ, G2, O, ρ, T, its.us[i], ⟨s2, f2.lo t.l, t.n⟩, r2, ?_⟩
          rw [← hbd] at h
          simp only at h
          rw [hbd] at h
          cases ea : asgT O T g its.us[i] ρ with
          | none => rw [ea] at h; exact h
          | some ρ' =>
            rw [ea] at h
            simp only at h ⊢
            refine fun σ' t' _ => ⟨φ, G2, O, ρ', T, t', ?_⟩
            cases eb : denB C O cb ρ' T with
            | nx ρ2 T2 => rw [eb] at h; exact fun σ3 φ3 G3 H3 f3 t3 => ⟨φ3, G3, ρ2, T2, (f.trans f2).trans f3, t3, h.later (f2.trans f3)⟩
            | ct ρ2 T2 => rw [eb] at h; exact fun σ3 φ3 G3 H3 f3 t3 => ⟨φ3, G3, ρ2, T2, (f.trans f2).trans f3, t3, h.later (f2.trans f3)⟩
            | bk ρ2 T2 => rw [eb] at h; exact h.later f2
            | rt u T2 => rw [eb] at h; exact h.later f2
            | exc => rw [eb] at h; exact h
            | fail => rw [eb] at h; exact h
      · rw [loopF, if_neg hw] at h
        exact h.elim
    · have e : i = its.us.length := by omega
      subst e
      rw [List.drop_length, loopF] at h
      by_cases hw : sameW O its.t T its.w = true
      · rw [if_pos hw] at h
        exact .inl ⟨(jok φ G H T f t.s hw).2, h σ φ G H Fut.refl t⟩
      · rw [if_neg hw] at h
        exact h.elim
end
end Y

set_option Elab.async false
set_option linter.all false
set_option maxRecDepth 100000
set_option maxHeartbeats 1000000
namespace Y
open PySem PySem.Spec L2
section
variable {ca : Nat → Addr} {φ φ' φ0 : List Addr} {G G' G0 H : Hp} {O T : Cs} {X : Cx} {K : PySem.W.Frag} {C : Cn} {σ : L2.St} {ρ : Rho} {D : Ends} {pos p apos cpos tpos : Pos} {a b e tg : Expr} {ea eb ec : CE}
/-- the items of a list, wherever it stands later -/
theorem list_at {x : U} {v : V} {us : List U} {T0 : Cs} (r : RpU G0 φ0 v x) (e : seqL O T0 x = some us) {φ : List Addr} {G H' : Hp} {T' : Cs} (f : Fut φ0 G0 φ G) (s : Sd ca φ G H' (O ++ T')) (hw : sameW O T0 T' (watch x) = true) :
    ∃ a vs, v = .ref a ∧ Rd H' a (.lst vs) ∧ RpUs G φ vs us := by
  unfold seqL at e
  split at e
  · cases e
    cases r with
    | d r => cases r with | lst h1 h2 => exact ⟨_, _, rfl, s.ex.rd (f.ex.rd h1), f.us h2.up⟩
  · cases r with
    | ref hi =>
      split at e
      · rename_i hc
        cases e
        obtain ⟨vs, h1, h2⟩ := cell_at s (f.pre _ _ hi) (sameW_eq hw hc)
        exact ⟨_, vs, rfl, .inl h1, h2.up⟩
      · rename_i hc
        cases e
        obtain ⟨vs, h1, h2⟩ := cell_at s (f.pre _ _ hi) (sameW_eq hw hc)
        exact ⟨_, vs, rfl, .inl h1, h2⟩
      · cases e
  · cases e
theorem itl_ok {x : U} {us : List U} {T0 : Cs} {a : Addr} (r : RpU G0 φ0 (.ref a) x) (e : seqL O T0 x = some us) : JOk ca (Itl K a) ⟨us, watch x, T0⟩ φ0 G0 O := by
  intro φ G H' T' f s hw
  obtain ⟨a', vs, ea, h1, h2⟩ := list_at r e f s hw
  cases ea
  refine ⟨fun i u hu => ?_, ⟨vs, .inl h1, Nat.le_of_eq h2.length⟩⟩
  obtain ⟨v', e1, e2⟩ := h2.get hu
  refine ⟨⟨vs, v', .inl h1, e1⟩, fun x' H2 hy => ?_⟩
  obtain ⟨rfl, hy⟩ := hy
  have := hy vs (.inl h1)
  rw [e1] at this
  cases this
  exact ⟨Ex.refl _, G, Fut.refl, s, e2⟩
theorem itt_ok {x : U} {us : List U} {T0 : Cs} {a : Addr} (r : RpU G0 φ0 (.ref a) x) (e : seqT x = some us) : JOk ca (Itt K a) ⟨us, none, T0⟩ φ0 G0 O := by
  intro φ G H' T' f s hw
  obtain ⟨a', vs, ea, h1, h2⟩ := seqT_ok s (f.u r) e
  cases ea
  have h1 : SqT K H' a vs := .inl (.inl h1)
  refine ⟨fun i u hu => ?_, ⟨vs, h1, Nat.le_of_eq h2.length⟩⟩
  obtain ⟨v', e1, e2⟩ := h2.get hu
  refine ⟨⟨vs, v', h1, e1⟩, fun x' H2 hy => ?_⟩
  obtain ⟨rfl, hy⟩ := hy
  have := hy vs h1
  rw [e1] at this
  cases this
  exact ⟨Ex.refl _, G, Fut.refl, s, e2⟩
theorem rngU_get {lo c : Int} {n i : Nat} {u : U} (h : (rngU lo n c)[i]? = some u) : i < n ∧ u = .d (.int (lo + (i : Nat) * c)) := by
  unfold rngU at h
  rw [List.getElem?_map] at h
  by_cases hi : i < n
  · rw [List.getElem?_range hi] at h
    cases h
    exact ⟨hi, rfl⟩
  · rw [List.getElem?_eq_none (by simp; omega)] at h
    cases h
theorem rngU_len {lo c : Int} {n : Nat} : (rngU lo n c).length = n := by simp [rngU]
theorem itr_ok {lo : Int} {n : Nat} {T0 : Cs} : JOk ca (Itr lo n) ⟨rngU lo n 1, none, T0⟩ φ0 G0 O := by
  intro φ G H' T' f s hw
  refine ⟨fun i u hu => ?_, by show n ≤ (rngU lo n 1).length; rw [rngU_len]; exact Nat.le_refl n⟩
  obtain ⟨h1, rfl⟩ := rngU_get hu
  refine ⟨h1, fun x' H2 hy => ?_⟩
  obtain ⟨rfl, rfl⟩ := hy
  rw [Int.mul_one]
  exact ⟨Ex.refl _, G, Fut.refl, s, .d (.int _)⟩
theorem itc_ok {lo c : Int} {n : Nat} {T0 : Cs} : JOk ca (Itc lo c n) ⟨rngU lo n c, none, T0⟩ φ0 G0 O := by
  intro φ G H' T' f s hw
  refine ⟨fun i u hu => ?_, by show n ≤ (rngU lo n c).length; rw [rngU_len]; exact Nat.le_refl n⟩
  obtain ⟨h1, rfl⟩ := rngU_get hu
  refine ⟨h1, fun x' H2 hy => ?_⟩
  obtain ⟨rfl, rfl⟩ := hy
  exact ⟨Ex.refl _, G, Fut.refl, s, .d (.int _)⟩
/-- a new tuple that a walk gives -/
theorem new_tup {φ : List Addr} {G H' : Hp} {S : Cs} {Tt : Addr} {vs : List V} {us : List U} (s : Sd ca φ G H' S) (nT : H' Tt = none) (r : RpUs G φ vs us) : Ex H' (upd H' Tt (.tup vs)) ∧ ∃ G', Fut φ G φ G' ∧ Sd ca φ G' (upd H' Tt (.tup vs)) S ∧ RpU G' φ (.ref Tt) (mkT us) := by
  refine ⟨Ex.new nT, upd G Tt (.tup vs), s.knowF nT, s.know nT, mkT_rp upd_same ((s.knowF nT).us r)⟩
theorem ite_ok {x : U} {us : List U} {T0 : Cs} {a : Addr} (r : RpU G0 φ0 (.ref a) x) (e : seqL O T0 x = some us) : JOk ca (Ite K a) ⟨us.zipIdx.map fun p => mkT [.d (.int (p.2 : Nat)), p.1], watch x, T0⟩ φ0 G0 O := by
  intro φ G H' T' f s hw
  obtain ⟨a', vs, ea, h1, h2⟩ := list_at r e f s hw
  cases ea
  refine ⟨fun i u hu => ?_, ⟨vs, .inl h1, by simp [h2.length]⟩⟩
  simp only [List.getElem?_map, List.getElem?_zipIdx, Option.map_map, Option.map_eq_some_iff] at hu
  obtain ⟨w, hw', rfl⟩ := hu
  obtain ⟨v', e1, e2⟩ := h2.get hw'
  refine ⟨⟨vs, v', .inl h1, e1⟩, fun x' H2 hy => ?_⟩
  obtain ⟨Tt, x2, rfl, nT, rfl, hy⟩ := hy
  have := hy vs (.inl h1)
  rw [e1] at this
  cases this
  simp only [Function.comp, Nat.zero_add]
  exact new_tup s nT (.cons (.d (.int _)) (.cons e2 .nil))
theorem itv_ok {x : U} {us : List U} {T0 : Cs} {a : Addr} {n : Nat} (hn : n = us.length) (r : RpU G0 φ0 (.ref a) x) (e : seqL O T0 x = some us) : JOk ca (Itv K a n) ⟨us.reverse, watch x, T0⟩ φ0 G0 O := by
  intro φ G H' T' f s hw
  obtain ⟨a', vs, ea, h1, h2⟩ := list_at r e f s hw
  cases ea
  subst hn
  refine ⟨fun i u hu => ?_, by show us.length ≤ us.reverse.length; simp⟩
  have lt : i < us.length := by
    have := (List.getElem?_eq_some_iff.mp hu).1
    simpa using this
  rw [List.getElem?_reverse lt] at hu
  obtain ⟨v', e1, e2⟩ := h2.get hu
  refine ⟨⟨lt, vs, v', .inl h1, e1⟩, fun x' H2 hy => ?_⟩
  obtain ⟨rfl, hy⟩ := hy
  have := hy vs (.inl h1)
  rw [e1] at this
  cases this
  exact ⟨Ex.refl _, G, Fut.refl, s, e2⟩
theorem its_ok {x : Str} {T0 : Cs} : JOk ca (L2.Its x) ⟨x.cps.toList.map fun c => .d (.str ⟨#[c]⟩), none, T0⟩ φ0 G0 O := by
  intro φ G H' T' f s hw
  refine ⟨fun i u hu => ?_, by show x.cps.size ≤ _; simp⟩
  simp only [List.getElem?_map, Option.map_eq_some_iff] at hu
  obtain ⟨c, hc, rfl⟩ := hu
  have hc' : x.cps[i]? = some c := by rw [← Array.getElem?_toList]; exact hc
  have lt : i < x.cps.size := by
    have := (List.getElem?_eq_some_iff.mp hc).1
    simpa using this
  refine ⟨lt, fun x' H2 hy => ?_⟩
  obtain ⟨rfl, c', hc2, rfl⟩ := hy
  rw [hc'] at hc2
  cases hc2
  exact ⟨Ex.refl _, G, Fut.refl, s, .d (.str _)⟩
theorem itz_ok {x y : U} {us ws : List U} {T0 : Cs} {a b : Addr} (r : RpU G0 φ0 (.ref a) x) (e : seqL O T0 x = some us) (r2 : RpU G0 φ0 (.ref b) y) (e2 : seqL O T0 y = some ws) (n1 : watch x = none) (n2 : watch y = none) :
    JOk ca (Itz K a b) ⟨(us.zip ws).map fun p => mkT [p.1, p.2], none, T0⟩ φ0 G0 O := by
  intro φ G H' T' f s hw
  obtain ⟨a', vs, ea, h1, h2⟩ := list_at r e f s (by rw [n1] <;> rfl)
  cases ea
  obtain ⟨b', zs, eb, k1, k2⟩ := list_at r2 e2 f s (by rw [n2] <;> rfl)
  cases eb
  refine ⟨fun i u hu => ?_, ⟨vs, zs, .inl h1, .inl k1, ?_⟩⟩
  · simp only [List.getElem?_map, Option.map_eq_some_iff] at hu
    obtain ⟨⟨u1, u2⟩, hz, rfl⟩ := hu
    obtain ⟨g1, g2⟩ := List.getElem?_zip_eq_some.mp hz
    obtain ⟨v1, q1, q2⟩ := h2.get g1
    obtain ⟨v2, q3, q4⟩ := k2.get g2
    refine ⟨⟨vs, zs, v1, v2, .inl h1, .inl k1, q1, q3⟩, fun x' H2 hy => ?_⟩
    obtain ⟨Tt, x1, x2, rfl, nT, rfl, hy1, hy2⟩ := hy
    have z1 := hy1 vs (.inl h1)
    have z2 := hy2 zs (.inl k1)
    rw [q1] at z1
    rw [q3] at z2
    cases z1
    cases z2
    exact new_tup s nT (.cons q2 (.cons q4 .nil))
  · simp only [List.length_map, List.length_zip]
    rw [h2.length, k2.length]
    omega
theorem itzT_ok {x y : U} {us ws : List U} {T0 : Cs} {a b : Addr} (r : RpU G0 φ0 (.ref a) x) (e : seqT x = some us) (r2 : RpU G0 φ0 (.ref b) y) (e2 : seqT y = some ws) :
    JOk ca (RZ.ItzT K a b) ⟨(us.zip ws).map fun p => mkT [p.1, p.2], none, T0⟩ φ0 G0 O := by
  intro φ G H' T' f s hw
  obtain ⟨a', vs, ea, h1, h2⟩ := seqT_ok s (f.u r) e
  cases ea
  have h1 : SqT K H' a vs := .inl (.inl h1)
  obtain ⟨b', zs, eb, k1, k2⟩ := seqT_ok s (f.u r2) e2
  cases eb
  have k1 : SqT K H' b zs := .inl (.inl k1)
  refine ⟨fun i u hu => ?_, ⟨vs, zs, h1, k1, ?_⟩⟩
  · simp only [List.getElem?_map, Option.map_eq_some_iff] at hu
    obtain ⟨⟨u1, u2⟩, hz, rfl⟩ := hu
    obtain ⟨g1, g2⟩ := List.getElem?_zip_eq_some.mp hz
    obtain ⟨v1, q1, q2⟩ := h2.get g1
    obtain ⟨v2, q3, q4⟩ := k2.get g2
    refine ⟨⟨vs, zs, v1, v2, h1, k1, q1, q3⟩, fun x' H2 hy => ?_⟩
    obtain ⟨Tt, x1, x2, rfl, nT, rfl, hy1, hy2⟩ := hy
    have z1 := hy1 vs h1
    have z2 := hy2 zs k1
    rw [q1] at z1
    rw [q3] at z2
    cases z1
    cases z2
    exact new_tup s nT (.cons q2 (.cons q4 .nil))
  · simp only [List.length_map, List.length_zip]
    rw [h2.length, k2.length]
    omega
theorem pi_li (h : PE X e (RE ca C ea)) : PI X tg e (RI ca C (.lst ea)) := (pi_list h).imp (by
  rintro σ H R ⟨φ, G, O, ρ, T, t, h⟩
  rw [denI] at h
  refine ⟨φ, G, O, ρ, T, t, ?_⟩
  cases e1 : den C O ρ ea T with
  | exc => rw [e1] at h; exact h
  | fail => rw [e1] at h; exact h
  | ok x T1 =>
    rw [e1] at h
    intro v φ1 G1 H1 f s r
    simp only [Y.R.bind_ok] at h
    cases e2 : seqL O T1 x with
    | none => rw [e2] at h; exact h.elim
    | some us =>
      rw [e2] at h
      obtain ⟨a, vs, rfl, ha, ra⟩ := seqL_ok s r e2
      exact ⟨a, rfl, ⟨vs, .inl ha⟩, h _ φ1 G1 H1 f s (itl_ok r e2)⟩)
theorem pi_tu (h : PE X e (RE ca C ea)) : PI X tg e (RI ca C (.tup ea)) := (pi_tup h).imp (by
  rintro σ H R ⟨φ, G, O, ρ, T, t, h⟩
  rw [denI] at h
  refine ⟨φ, G, O, ρ, T, t, ?_⟩
  cases e1 : den C O ρ ea T with
  | exc => rw [e1] at h; exact h
  | fail => rw [e1] at h; exact h
  | ok x T1 =>
    rw [e1] at h
    intro v φ1 G1 H1 f s r
    simp only [Y.R.bind_ok] at h
    cases e2 : seqT x with
    | none => rw [e2] at h; exact h.elim
    | some us =>
      rw [e2] at h
      obtain ⟨a, vs, rfl, ha, ra⟩ := seqT_ok s r e2
      exact ⟨a, rfl, ⟨vs, .inl (.inl ha)⟩, h _ φ1 G1 H1 f s (itt_ok r e2)⟩)
theorem pi_st (h : PE X e (RE ca C ea)) : PI X tg e (RI ca C (.str ea)) := (pi_str h).imp (by
  rintro σ H R ⟨φ, G, O, ρ, T, t, h⟩
  rw [denI] at h
  refine ⟨φ, G, O, ρ, T, t, ?_⟩
  cases e1 : den C O ρ ea T with
  | exc => rw [e1] at h; exact h
  | fail => rw [e1] at h; exact h
  | ok x T1 =>
    rw [e1] at h
    intro v φ1 G1 H1 f s r
    simp only [Y.R.bind_ok] at h
    split at h
    · have := rp_str r
      subst this
      exact ⟨_, rfl, h _ φ1 G1 H1 f s its_ok⟩
    · exact h.elim)
theorem rngOk_ok {i j : Int} (h : rngOk i j = true) : (-(2 ^ 62) ≤ i ∧ i < 2 ^ 62) ∧ -(2 ^ 62) ≤ j ∧ j < 2 ^ 62 := by
  simp only [rngOk, Bool.and_eq_true, decide_eq_true_eq] at h
  omega
/-- one argument, then the iterable -/
theorem ri_one {it : IT} {f : Cs → U → Cs → R Its} (hc : ∀ O ρ T, denI C O ρ it T = (den C O ρ ea T).bind fun x T => f O x T) {R : It → Hp → Prop} (h : RI ca C it σ H R) :
    ∃ φ G O ρ T, At ca φ G H O T σ ρ ∧ Pc ca rUs φ G O (denA C O ρ (.cons ea .nil) T) (fun vs H1 => ∃ φ G T v u, vs = [v] ∧ Sd ca φ G H1 (O ++ T) ∧ RpU G φ v u ∧ IOk ca φ G O (f O u T) R) := by
  obtain ⟨φ, G, O, ρ, T, t, h⟩ := h
  rw [hc] at h
  refine ⟨φ, G, O, ρ, T, t, ?_⟩
  simp only [denA]
  cases e1 : den C O ρ ea T with
  | exc => rw [e1] at h; exact h
  | fail => rw [e1] at h; exact h
  | ok x T1 =>
    rw [e1] at h
    simp only [Y.R.bind_ok] at h ⊢
    intro vs φ1 G1 H1 ff s r
    obtain ⟨v, rfl, r1⟩ := RpUs.one r
    exact ⟨φ1, G1, T1, v, x, rfl, s, r1, h.later ff⟩
theorem ri_two {it : IT} {f : Cs → U → U → Cs → R Its} (hc : ∀ O ρ T, denI C O ρ it T = (den C O ρ ea T).bind fun x T => (den C O ρ eb T).bind fun y T => f O x y T) {R : It → Hp → Prop} (h : RI ca C it σ H R) :
    ∃ φ G O ρ T, At ca φ G H O T σ ρ ∧ Pc ca rUs φ G O (denA C O ρ (.cons ea (.cons eb .nil)) T) (fun vs H1 => ∃ φ G T v w u z, vs = [v, w] ∧ Sd ca φ G H1 (O ++ T) ∧ RpU G φ v u ∧ RpU G φ w z ∧ IOk ca φ G O (f O u z T) R) := by
  obtain ⟨φ, G, O, ρ, T, t, h⟩ := h
  rw [hc] at h
  refine ⟨φ, G, O, ρ, T, t, ?_⟩
  simp only [denA]
  cases e1 : den C O ρ ea T with
  | exc => rw [e1] at h; exact h
  | fail => rw [e1] at h; exact h
  | ok x T1 =>
    rw [e1] at h
    simp only [Y.R.bind_ok] at h ⊢
    cases e2 : den C O ρ eb T1 with
    | exc => rw [e2] at h; exact h
    | fail => rw [e2] at h; exact h
    | ok y T2 =>
      rw [e2] at h
      simp only [Y.R.bind_ok] at h ⊢
      intro vs φ1 G1 H1 ff s r
      obtain ⟨v, w, rfl, r1, r2⟩ := RpUs.two r
      exact ⟨φ1, G1, T2, v, w, x, y, rfl, s, r1, r2, h.later ff⟩
theorem pi_r1 (hg : Gl X "range") (hm : X.mg "range" = none) (ha : PA X [a] (RA ca C (.cons ea .nil))) (hs : starEach [a] X.env = [(false, eval a X.env)]) : PI X tg (.Call (.Name "range" p) [a] [] pos) (RI ca C (.rng1 ea)) :=
  (pi_range1 hg hm ha hs).imp (by
    intro σ H R h
    obtain ⟨φ, G, O, ρ, T, t, h⟩ := ri_one (ea := ea) (f := fun O x T => match x with | .d (.int j) => if rngOk 0 j then .ok ⟨rngU 0 j.toNat 1, none, T⟩ T else .fail | _ => .fail) (fun O ρ T => by rw [denI] <;> rfl) h
    refine ⟨φ, G, O, ρ, T, t, Pc.imp h ?_⟩
    rintro vs H1 ⟨φ1, G1, T1, v, u, rfl, s, r, h⟩
    split at h
    · split at h
      · rename_i hk
        have e1 := rp_int r
        subst e1
        have := rngOk_ok hk
        exact ⟨_, rfl, this.2.1, this.2.2, h _ φ1 G1 H1 Fut.refl s itr_ok⟩
      · exact h.elim
    · exact h.elim)
theorem pi_r2 (hg : Gl X "range") (hm : X.mg "range" = none) (ha : PA X [a, b] (RA ca C (.cons ea (.cons eb .nil)))) (hs : starEach [a, b] X.env = [(false, eval a X.env), (false, eval b X.env)]) (hs2 : starEach [b] X.env = [(false, eval b X.env)]) :
    PI X tg (.Call (.Name "range" p) [a, b] [] pos) (RI ca C (.rng2 ea eb)) :=
  (pi_range2 hg hm ha hs hs2).imp (by
    intro σ H R h
    obtain ⟨φ, G, O, ρ, T, t, h⟩ := ri_two (ea := ea) (eb := eb) (f := fun O x y T => match x, y with | .d (.int i), .d (.int j) => if rngOk i j then .ok ⟨rngU i (j - i).toNat 1, none, T⟩ T else .fail | _, _ => .fail) (fun O ρ T => by rw [denI] <;> rfl) h
    refine ⟨φ, G, O, ρ, T, t, Pc.imp h ?_⟩
    rintro vs H1 ⟨φ1, G1, T1, v, w, u, z, rfl, s, r, r2, h⟩
    split at h
    · split at h
      · rename_i hk
        have e2 := rp_int r
        have e3 := rp_int r2
        subst e2 e3
        have := rngOk_ok hk
        exact ⟨_, _, rfl, ⟨this.1.1, this.1.2, this.2.1, this.2.2⟩, h _ φ1 G1 H1 Fut.refl s itr_ok⟩
      · exact h.elim
    · exact h.elim)
theorem pi_en {elts : List Expr} {kk : Nat} (hg : Gl X "enumerate") (hm : X.mg "enumerate" = none) (ha : PA X [a] (RA ca C (.cons ea .nil))) (hs : starEach [a] X.env = [(false, eval a X.env)]) : PI X (.Tuple elts kk tpos) (.Call (.Name "enumerate" p) [a] [] pos) (RI ca C (.enumL ea)) :=
  (pi_enum hg hm ha hs).imp (by
    intro σ H R h
    obtain ⟨φ, G, O, ρ, T, t, h⟩ := ri_one (ea := ea) (f := fun O x T => match seqL O T x with | some us => .ok ⟨us.zipIdx.map fun p => mkT [.d (.int (p.2 : Nat)), p.1], watch x, T⟩ T | none => .fail) (fun O ρ T => by rw [denI] <;> rfl) h
    refine ⟨φ, G, O, ρ, T, t, Pc.imp h ?_⟩
    rintro vs H1 ⟨φ1, G1, T1, v, u, rfl, s, r, h⟩
    cases e2 : seqL O T1 u with
    | none => rw [e2] at h; exact h.elim
    | some us =>
      rw [e2] at h
      obtain ⟨a, ys, rfl, hy, ry⟩ := seqL_ok s r e2
      exact ⟨a, ys, rfl, .inl hy, h _ φ1 G1 H1 Fut.refl s (ite_ok r e2)⟩)
theorem pi_rv (hg : Gl X "reversed") (hm : X.mg "reversed" = none) (ha : PA X [a] (RA ca C (.cons ea .nil))) (hs : starEach [a] X.env = [(false, eval a X.env)]) : PI X tg (.Call (.Name "reversed" p) [a] [] pos) (RI ca C (.revL ea)) :=
  (pi_reversed hg hm ha hs).imp (by
    intro σ H R h
    obtain ⟨φ, G, O, ρ, T, t, h⟩ := ri_one (ea := ea) (f := fun O x T => match seqL O T x with | some us => .ok ⟨us.reverse, watch x, T⟩ T | none => .fail) (fun O ρ T => by rw [denI] <;> rfl) h
    refine ⟨φ, G, O, ρ, T, t, Pc.imp h ?_⟩
    rintro vs H1 ⟨φ1, G1, T1, v, u, rfl, s, r, h⟩
    cases e2 : seqL O T1 u with
    | none => rw [e2] at h; exact h.elim
    | some us =>
      rw [e2] at h
      obtain ⟨a, ys, rfl, hy, ry⟩ := seqL_ok s r e2
      exact ⟨a, ys, rfl, .inl hy, h _ φ1 G1 H1 Fut.refl s (itv_ok ry.length r e2)⟩)
theorem pi_zi {elts : List Expr} {kk : Nat} (hg : Gl X "zip") (hm : X.mg "zip" = none) (ha : PA X [a, b] (RA ca C (.cons ea (.cons eb .nil)))) (hs : starEach [a, b] X.env = (false, eval a X.env) :: starEach [b] X.env) (hpl : (backTo pos (starEach [b] X.env)).any (·.1) = false) :
    PI X (.Tuple elts kk tpos) (.Call (.Name "zip" p) [a, b] [] pos) (RI ca C (.zipL ea eb)) :=
  (RZ.pi_zipA hg hm ha hs hpl).imp (by
    intro σ H R h
    obtain ⟨φ, G, O, ρ, T, t, h⟩ := ri_two (ea := ea) (eb := eb) (f := fun O x y T => match seqL O T x, seqL O T y, watch x, watch y with
      | some us, some ws, none, none => .ok ⟨(us.zip ws).map fun p => mkT [p.1, p.2], none, T⟩ T
      | _, _, _, _ => match seqT x, seqT y with
        | some us, some ws => .ok ⟨(us.zip ws).map fun p => mkT [p.1, p.2], none, T⟩ T
        | _, _ => .fail) (fun O ρ T => by rw [denI] <;> rfl) h
    refine ⟨φ, G, O, ρ, T, t, Pc.imp h ?_⟩
    rintro vs H1 ⟨φ1, G1, T1, v, w, u, z, rfl, s, r, r2, h⟩
    split at h
    · rename_i q1 q2 q3 q4
      · obtain ⟨a, ys, rfl, hy, ry⟩ := seqL_ok s r q1
        obtain ⟨b, zs, rfl, hz, rz⟩ := seqL_ok s r2 q2
        exact ⟨a, b, ys, zs, rfl, .inl ⟨.inl hy, .inl hz, h _ φ1 G1 H1 Fut.refl s (itz_ok r q1 r2 q2 q3 q4)⟩⟩
    · split at h
      · rename_i q1 q2
        obtain ⟨a, ys, rfl, hy, ry⟩ := seqT_ok s r q1
        obtain ⟨b, zs, rfl, hz, rz⟩ := seqT_ok s r2 q2
        exact ⟨a, b, ys, zs, rfl, .inr ⟨.inl (.inl hy), .inl (.inl hz), h _ φ1 G1 H1 Fut.refl s (itzT_ok r q1 r2 q2)⟩⟩
      · exact h.elim)
end
end Y

set_option Elab.async false
set_option linter.all false
set_option maxRecDepth 100000
set_option maxHeartbeats 1000000
namespace Y
open PySem PySem.Spec L2
section
variable {ca : Nat → Addr} {φ φ' φ0 : List Addr} {G G' G0 H : Hp} {O T : Cs} {X : Cx} {K : PySem.W.Frag} {C : Cn} {σ : L2.St} {ρ : Rho} {D : Ends} {pos p apos cpos tpos : Pos} {a b e tg : Expr} {ea eb ec : CE}
theorem Sd.recell {S : Cs} (s : Sd ca φ G H S) {i : Nat} {a : Addr} {c c' : Cell} (hi : φ[i]? = some a) (hc : S[i]? = some c) (hl : live c) (h : CellOk ca G φ H a c') : Sd ca φ G H (S.set i c') := by
  have lt := (List.getElem?_eq_some_iff.mp hc).1
  refine ⟨by simp [s.len], s.nd, s.ex, fun j b d h1 h2 h3 => ?_, s.kn, fun j b d h1 h2 => ?_⟩
  · by_cases e : j = i
    · subst e; rw [hi] at h1; cases h1; exact s.off _ _ _ hi hc hl
    · rw [List.getElem?_set_ne (Ne.symm e)] at h2; exact s.off j b d h1 h2 h3
  · by_cases e : j = i
    · subst e
      rw [hi] at h1; cases h1
      rw [List.getElem?_set_self lt] at h2; cases h2
      exact h
    · rw [List.getElem?_set_ne (Ne.symm e)] at h2; exact s.cell j b d h1 h2
theorem wipe_len (σ : L2.St) (vs : List Nat) : (wipe σ vs).length = σ.length := wipe_length σ vs
theorem set_wipe {σ : L2.St} {i : Nat} : ∀ {vs : List Nat}, i ∈ vs → (wipe σ vs).set i none = wipe σ vs
  | [], h => by simp at h
  | v :: vs, h => by
    unfold wipe
    by_cases e : i = v
    · subst e; rw [List.set_set]
    · have hv : i ∈ vs := (List.mem_cons.mp h).resolve_left e
      rw [List.set_comm _ _ (fun z => e z.symm), set_wipe hv]
theorem wipe_sub {σ : L2.St} {ws : List Nat} : ∀ {vs : List Nat}, (∀ i ∈ vs, i ∈ ws) → wipe (wipe σ ws) vs = wipe σ ws
  | [], _ => rfl
  | v :: vs, h => by
    show (wipe (wipe σ ws) vs).set v none = wipe σ ws
    rw [wipe_sub fun i hi => h i (List.mem_cons_of_mem _ hi), set_wipe (h v List.mem_cons_self)]
theorem wipe_wipe (σ : L2.St) (vs : List Nat) : wipe (wipe σ vs) vs = wipe σ vs := wipe_sub fun _ h => h
theorem wipeR_len (ρ : Rho) : ∀ vs : List Nat, (wipeR ρ vs).length = ρ.length
  | [] => rfl
  | v :: vs => by unfold wipeR; rw [List.length_set, wipeR_len ρ vs]
theorem wipeR_some {ρ : Rho} {i : Nat} {x : U} : ∀ {vs : List Nat}, (wipeR ρ vs)[i]? = some (some x) → ρ[i]? = some (some x) ∧ i ∉ vs
  | [], h => ⟨h, by simp⟩
  | v :: vs, h => by
    unfold wipeR at h
    by_cases hi : v = i
    · subst hi
      by_cases hv : v < (wipeR ρ vs).length
      · rw [List.getElem?_set_self hv] at h; cases h
      · rw [List.getElem?_eq_none (by simpa using hv)] at h; cases h
    · rw [List.getElem?_set_ne hi] at h
      obtain ⟨h1, h2⟩ := wipeR_some h
      exact ⟨h1, by simp only [List.mem_cons, not_or]; exact ⟨fun e => hi e.symm, h2⟩⟩
theorem wipe_get {σ : L2.St} {i : Nat} : ∀ {vs : List Nat}, i ∉ vs → (wipe σ vs)[i]? = σ[i]?
  | [], _ => rfl
  | v :: vs, h => by
    unfold wipe
    rw [List.getElem?_set_ne (fun e => h (by rw [e]; exact List.mem_cons_self)), wipe_get fun z => h (List.mem_cons_of_mem _ z)]
theorem At.wipe (t : At ca φ G H O T σ ρ) (vs : List Nat) : At ca φ G H O T (L2.wipe σ vs) (wipeR ρ vs) := by
  refine ⟨t.s, fun i u h => ?_, by rw [wipe_len, wipeR_len, t.n]⟩
  obtain ⟨h1, h2⟩ := wipeR_some h
  obtain ⟨v, e1, e2⟩ := t.l i u h1
  exact ⟨v, by rw [wipe_get h2]; exact e1, e2⟩
/-- any result: nothing is said of the value -/
def rAny {α : Type} (_ : Hp) (_ : List Addr) (_ : Unit) (_ : α) : Prop := True
theorem pts_no : PTs X [] (RT ca C (.c (.bool true))) := ⟨fun pins s σ H Q I h => pts_nil.run pins s σ H Q I (by
  obtain ⟨φ, G, O, ρ, T, t, h⟩ := h
  rw [den] at h
  exact Pc.now (a := true) h t.s rfl)⟩
/-- [elt for target in it if test] -/
theorem to_comp {elt tst : CE} {g : Tg} {it : IT} {own : List Nat} {l : Bool} (hsl : ∀ i ∈ slotsT g, i ∈ own) :
    ∀ σ H Q, RE ca C (.comp l elt g it tst own) σ H Q → tLc (RI ca C it) (RG ca g) (RT ca C tst) (RE ca C elt) own σ H Q := by
  rintro σ H Q ⟨φ, G, O, ρ, T, t, h⟩
  rw [den] at h
  refine ⟨φ, G, O, ρ, T, t, ?_⟩
  cases ei : denI C O ρ it T with
  | exc => rw [ei] at h; exact h
  | fail => rw [ei] at h; exact h
  | ok its T0 =>
    rw [ei] at h
    rw [Y.R.bind_ok] at h
    intro J φ1 G1 H1 f1 s1 jok Dl nD
    generalize hel : (fun u T => match asgT O T g u (wipeR ρ own) with
        | some ρ' => (den C O ρ' tst T).bind fun b T => brB (asB b) ((den C O ρ' elt T).bind fun y T => Y.R.ok (some y) T) (Y.R.ok none T)
        | none => Y.R.fail) = el at h
    have s2 := s1.cellNew (o := .lst []) (c := .lstU []) nD ⟨[], upd_same, .nil⟩
    rw [List.append_assoc] at s2
    have hlen : φ1.length = O.length + T0.length := by rw [s1.len, List.length_append]
    refine ⟨fun i m H => ∃ φ G T', Fut φ1 G1 φ G ∧ Sd ca φ G H (O ++ T') ∧ φ[O.length + T0.length]? = some Dl ∧ m = its.us.length - i ∧ i ≤ its.us.length ∧
      Pc ca rU φ1 G1 O ((compC el (fun T' => sameW O its.t T' its.w) T0.length (its.us.drop i) T').bind fun _ T' => compE O l T0 T') Q,
      ⟨its.us.length, φ1 ++ [Dl], G1, T0 ++ [.lstU []], Sd.newF, s2, by rw [← hlen]; simp, rfl, Nat.zero_le _, by rw [List.drop_zero]; exact h.later f1⟩, ?_⟩
    rintro i m H ⟨φ, G, T', f, s, hD, rfl, hi, h⟩
    have idx : O.length + T0.length - O.length = T0.length := by omega
    by_cases hw : sameW O its.t T' its.w = true
    · by_cases hlt : i < its.us.length
      · rw [List.drop_eq_getElem_cons hlt, compC, if_pos hw, R.bind_bind] at h
        have jj := (jok φ G H T' f s hw).1 i its.us[i] (List.getElem?_eq_getElem hlt)
        refine .inr ⟨jj.1, fun H' => ∃ φ G T', Fut φ1 G1 φ G ∧ Sd ca φ G H' (O ++ T') ∧ φ[O.length + T0.length]? = some Dl ∧
          Pc ca rU φ1 G1 O ((compC el (fun T' => sameW O its.t T' its.w) T0.length (its.us.drop (i + 1)) T').bind fun _ T' => compE O l T0 T') Q,
          fun H' hh => ⟨its.us.length - (i + 1), by omega, ?_⟩, fun x H' hy => ?_⟩
        · obtain ⟨φ2, G2, T2, a, b, c, d⟩ := hh
          exact ⟨φ2, G2, T2, a, b, c, rfl, hlt, d⟩
        · obtain ⟨_, G2, f2, s2, r2⟩ := jj.2 x H' hy
          have t2 : At ca φ G2 H' O T' (L2.wipe σ own) (wipeR ρ own) := At.wipe ⟨s2, (f1.trans (f.trans f2)).lo t.l, t.n⟩ own
          refine ⟨φ, G2, O, wipeR ρ own, T', its.us[i], t2, r2, ?_⟩
          rw [← hel] at h
          simp only at h
          rw [hel] at h
          cases ea : asgT O T' g its.us[i] (wipeR ρ own) with
          | none => rw [ea] at h; exact h
          | some ρ' =>
            rw [ea] at h
            simp only at h ⊢
            intro σ2 t3 sb
            have ew : L2.wipe σ2 own = L2.wipe σ own := (sb own hsl).trans (wipe_wipe σ own)
            refine ⟨ew, φ, G2, O, ρ', T', t3, ?_⟩
            rw [R.bind_bind] at h
            simp only [brB_bind] at h
            refine Pc.imp (Pc.keepBr (k := fun b T => if b = true then ((den C O ρ' elt T).bind fun y T => Y.R.ok (some y) T).bind fun oy T' => ((putC T0.length oy T').bind fun _ T'' => compC el (fun T' => sameW O its.t T' its.w) T0.length (its.us.drop (i + 1)) T'').bind fun _ T' => compE O l T0 T'
              else ((putC T0.length none T).bind fun _ T'' => compC el (fun T' => sameW O its.t T' its.w) T0.length (its.us.drop (i + 1)) T'').bind fun _ T' => compE O l T0 T') h) ?_
            rintro k H3 ⟨φ3, G3, T3, k', f3, s3, r3, h3⟩
            have r3 : k = k' := r3
            subst r3
            cases k with
            | false =>
              rw [if_neg Bool.false_ne_true] at h3 ⊢
              exact ⟨φ3, G3, T3, f.trans (f2.trans f3), s3, f3.pre _ _ hD, h3⟩
            | true =>
              rw [if_pos rfl] at h3 ⊢
              rw [R.bind_bind] at h3
              refine ⟨φ3, G3, O, ρ', T3, ⟨s3, f3.lo t3.l, t3.n⟩, Pc.imp h3.keep ?_⟩
              rintro y H4 ⟨φ4, G4, T4, u4, f4, s4, r4, h4⟩
              have hD4 := f4.pre _ _ (f3.pre _ _ hD)
              rw [Y.R.bind_ok] at h4
              unfold putC at h4
              cases ec : T4[T0.length]? with
              | none => simp only [ec] at h4; exact h4.elim
              | some c =>
                have ecS : (O ++ T4)[O.length + T0.length]? = some c := by
                  rw [List.getElem?_append_right (by omega), idx]; exact ec
                cases c with
                | lstU acc =>
                  simp only [ec] at h4
                  obtain ⟨vs, h1, h2⟩ := s4.cell _ _ _ hD4 ecS
                  by_cases hz : sizeOk acc.length = true
                  · rw [if_pos hz, Y.R.bind_ok] at h4
                    have hz := sizeOk_le hz
                    rw [← h2.length] at hz
                    refine ⟨vs, h1, sz_lt hz, φ4, G4, T4.set T0.length (.lstU (acc ++ [u4])), f.trans (f2.trans (f3.trans f4)), ?_, hD4, h4⟩
                    have := s4.write (o := .lst (vs ++ [y])) (c' := .lstU (acc ++ [u4])) hD4 ecS trivial ⟨_, upd_same, h2.append (.cons r4 .nil)⟩
                    rw [set_own _ _ _ _ (by omega), idx] at this
                    exact this
                  · rw [if_neg hz] at h4
                    exact h4.elim
                | lst _ => simp only [ec] at h4; exact h4.elim
                | dct _ => simp only [ec] at h4; exact h4.elim
                | dctU _ => simp only [ec] at h4; exact h4.elim
                | ins _ _ => simp only [ec] at h4; exact h4.elim
                | dead => simp only [ec] at h4; exact h4.elim
      · have e : i = its.us.length := by omega
        subst e
        rw [List.drop_length, compC, if_pos hw] at h
        refine .inl ⟨(jok φ G H T' f s hw).2, ?_⟩
        have h : Pc ca rU φ1 G1 O (compE O l T0 T') Q := h
        unfold compE at h
        cases ec : T'[T0.length]? with
        | none => simp only [ec] at h; exact h.elim
        | some c =>
          have ecS : (O ++ T')[O.length + T0.length]? = some c := by
            rw [List.getElem?_append_right (by omega), idx]; exact ec
          cases c with
          | lstU acc =>
            simp only [ec] at h
            obtain ⟨vs, h1, h2⟩ := s.cell _ _ _ hD ecS
            cases l with
            | true =>
              rw [if_pos rfl] at h
              have s' := s.recell hD ecS trivial (cellOf_ok h1 h2)
              rw [set_own _ _ _ _ (by omega), idx] at s'
              exact h _ φ G H f s' (.ref hD)
            | false =>
              rw [if_neg Bool.false_ne_true] at h
              cases ed : allD acc with
              | none => simp only [ed] at h; exact h.elim
              | some ds =>
                simp only [ed] at h
                have h3 := h2.down ed
                have s' := s.freeze (o := .lst vs) hD ecS trivial h1
                have ff := s.freezeF (o := .lst vs) hD ecS trivial
                rw [set_own _ _ _ _ (by omega), idx] at s'
                split at h
                · rename_i hb
                  simp only [Bool.and_eq_true, decide_eq_true_eq] at hb
                  have e1 := beqCs_eq _ _ hb.1
                  have e2 : T'.set T0.length .dead = T0 ++ [.dead] := by
                    have lt : T0.length < T'.length := by omega
                    have e3 : T' = T0 ++ [T'[T0.length]] := by
                      conv => lhs; rw [← List.take_append_drop T0.length T']
                      rw [e1, List.drop_eq_getElem_cons lt, List.drop_eq_nil_of_le (by omega)]
                    rw [e3]
                    rw [List.set_append_right (h := Nat.le_refl _)]
                    simp
                  rw [e2, ← List.append_assoc] at s'
                  have f' : Fut φ1 G1 φ (upd G Dl (.lst vs)) := f.trans ff
                  have s0 : Sd ca φ1 (upd G Dl (.lst vs)) H (O ++ T0) := Sd.drop s1 f' s'
                  have r0 : Rp (upd G Dl (.lst vs)) (.ref Dl) (.list ds) := .lst (.inl upd_same) (Rps.mono ff.ex _ _ h3)
                  exact h _ φ1 _ _ ⟨fun _ _ z => z, f'.ex⟩ s0 (.d r0)
                · exact h _ φ _ _ (f.trans ff) s' (.d (.lst (.inl upd_same) (Rps.mono ff.ex _ _ h3)))
          | lst _ => simp only [ec] at h; exact h.elim
          | dct _ => simp only [ec] at h; exact h.elim
          | dctU _ => simp only [ec] at h; exact h.elim
          | ins _ _ => simp only [ec] at h; exact h.elim
          | dead => simp only [ec] at h; exact h.elim
    · cases hd : its.us.drop i with
      | nil => rw [hd, compC, if_neg hw] at h; exact h.elim
      | cons u us => rw [hd, compC, if_neg hw] at h; exact h.elim
end
end Y

set_option Elab.async false
set_option linter.all false
set_option maxRecDepth 100000
set_option maxHeartbeats 1000000
namespace Y
open PySem PySem.Spec L2
section
variable {ca : Nat → Addr} {φ φ' φ0 : List Addr} {G G' G0 H : Hp} {O T : Cs} {X : Cx} {K : PySem.W.Frag} {C : Cn} {σ : L2.St} {ρ : Rho} {D : Ends} {pos p apos cpos tpos : Pos} {a b e tg o i : Expr} {ea eb ec eo : CE} {as : CA} {es : List Expr}
/-- what a def promises: it gives what its meaning gives -/
def spR (ca : Nat → Addr) (call : Cs → Nat → List U → Cs → R U) (f np : Nat) : Sp := fun vs H Q _ => ∃ φ G O T us, us.length = np ∧ Sd ca φ G H (O ++ T) ∧ RpUs G φ vs us ∧ Pc ca rU φ G O (call O f us T) Q
theorem callP_ok {f : Nat} {vs : List V} {us : List U} {np : Nat} {Q : VK} {E : XK} (hn : us.length = np) (h : Pc ca rU φ0 G0 O (callP C O f us T) Q) (ff : Fut φ0 G0 φ G) (s : Sd ca φ G H (O ++ T)) (r : RpUs G φ vs us) : spR ca C.call f np vs H Q E := by
  refine ⟨φ, G, O ++ T, [], us, hn, by rw [List.append_nil]; exact s, r, ?_⟩
  unfold callP at h
  cases e : C.call (O ++ T) f us [] with
  | exc => rw [e] at h; exact h
  | fail => rw [e] at h; exact h
  | ok u T' =>
    rw [e] at h
    intro v φ' G' H' f1 s' r'
    have h := h.later ff
    have s0 : Sd ca φ G' H' (O ++ T) := Sd.drop s f1 s'
    cases u with
    | d x =>
      cases r' with
      | d r' => exact h v φ G' H' ⟨fun _ _ z => z, f1.ex⟩ s0 (.d r')
    | tup us => exact h.elim
    | ref i =>
      simp only at h
      split at h
      · rename_i hi
        cases ec : getC (O ++ T) T' i with
        | none => simp only [ec] at h; exact h.elim
        | some c =>
          cases c with
          | lst ds =>
            simp only [ec] at h
            cases r' with
            | ref hr =>
              have ec2 := ec
              rw [getC_eq] at ec2
              obtain ⟨ws, h1, h2⟩ := s'.cell _ _ _ hr ec2
              have s2 := s'.freeze (o := .lst ws) hr ec2 trivial h1
              have f2 := s'.freezeF (o := .lst ws) hr ec2 trivial
              rw [set_own _ _ _ _ (by rw [List.length_append]; exact hi)] at s2
              have f3 := f1.trans f2
              exact h _ φ _ _ ⟨fun _ _ z => z, f3.ex⟩ (Sd.drop s f3 s2) (.d (.lst (.inl upd_same) (Rps.mono f2.ex _ _ h2)))
          | lstU _ => simp only [ec] at h; exact h.elim
          | dct _ => simp only [ec] at h; exact h.elim
          | dctU _ => simp only [ec] at h; exact h.elim
          | ins _ _ => simp only [ec] at h; exact h.elim
          | dead => simp only [ec] at h; exact h.elim
      · exact h.elim
theorem callL_ok {f : Nat} {vs : List V} {us : List U} {np : Nat} {Q : VK} {E : XK} (hn : us.length = np) (h : Pc ca rU φ0 G0 O (C.call O f us T) Q) (ff : Fut φ0 G0 φ G) (s : Sd ca φ G H (O ++ T)) (r : RpUs G φ vs us) : spR ca C.call f np vs H Q E :=
  ⟨φ, G, O, T, us, hn, s, r, h.later ff⟩
/-- the written defaults -/
theorem dv_ok {ds : List Y.D} {dvs : List V} (h : ∀ G, Rps G dvs ds) : RpUs G φ dvs (ds.map .d) := (h G).up
theorem to_call {f np : Nat} {l : Bool} {ds : List Y.D} {dvs : List V} {E : XK} (hd : ∀ G, Rps G dvs ds) (hlen : ∀ O us T, us.length ≠ np → C.call O f us T = .fail) :
    ∀ σ H Q, RE ca C (.call l f as ds) σ H Q → tCall (spR ca C.call f np) dvs E (RA ca C as) σ H Q := by
  rintro σ H Q ⟨φ, G, O, ρ, T, t, h⟩
  rw [den] at h
  refine ⟨φ, G, O, ρ, T, t, Pc.imp h.bind ?_⟩
  rintro vs H1 ⟨φ1, G1, T1, us, f1, s1, r1, h1⟩
  have r2 : RpUs G1 φ1 (vs ++ dvs) (us ++ ds.map U.d) := RpUs.append r1 (dv_ok hd)
  by_cases hn : (us ++ ds.map U.d).length = np
  · cases l with
    | true => rw [if_pos rfl] at h1; exact callL_ok hn h1 Fut.refl s1 r2
    | false => rw [if_neg Bool.false_ne_true] at h1; exact callP_ok hn h1 Fut.refl s1 r2
  · cases l with
    | true => rw [if_pos rfl, hlen _ _ _ hn] at h1; exact h1.elim
    | false =>
      rw [if_neg Bool.false_ne_true] at h1
      unfold callP at h1
      rw [hlen _ _ _ hn] at h1
      exact h1.elim
theorem ins_at (s : Sd ca φ G H (O ++ T)) {u : U} {v : V} {c : Nat} (r : RpU G φ v u) (e : clsOf O T u = some c) : ∃ i a dx fs ws, u = .ref i ∧ v = .ref a ∧ φ[i]? = some a ∧ getC O T i = some (.ins c fs) ∧ H a = some (.ins (ca c) dx ws) ∧ RpF G φ ws fs := by
  unfold clsOf at e
  split at e
  · cases r with
    | ref hi =>
      split at e
      · rename_i hc
        cases e
        obtain ⟨dx, ws, h1, h2⟩ := cell_at s hi hc
        exact ⟨_, _, dx, _, ws, rfl, rfl, hi, hc, h1, h2⟩
      · cases e
  · cases e
theorem RpF.look : ∀ {ws : List (Str × V)} {fs : List (Str × U)} (f : Str), RpF G φ ws fs → (fs.lookup f = none ∧ ws.lookup f = none) ∨ ∃ u v, fs.lookup f = some u ∧ ws.lookup f = some v ∧ RpU G φ v u
  | _, _, f, .nil => .inl ⟨rfl, rfl⟩
  | _, _, f, .cons (k := k) h t => by
    simp only [List.lookup_cons]
    cases e : f == k with
    | true => exact .inr ⟨_, _, rfl, rfl, h⟩
    | false => exact RpF.look f t
theorem RpF.len : ∀ {ws : List (Str × V)} {fs : List (Str × U)}, RpF G φ ws fs → ws.length = fs.length
  | _, _, .nil => rfl
  | _, _, .cons _ t => by simp [RpF.len t]
theorem RpF.put {v : V} {u : U} (r : RpU G φ v u) (f : Str) : ∀ {ws : List (Str × V)} {fs : List (Str × U)}, RpF G φ ws fs → RpF G φ (putF f v ws) (putFU f u fs)
  | _, _, .nil => .cons r .nil
  | _, _, .cons (k := k) h t => by
    unfold putF putFU
    by_cases e : k = f
    · rw [if_pos e, if_pos e]; exact .cons r t
    · rw [if_neg e, if_neg e]; exact .cons h (RpF.put r f t)
theorem to_fld {c : Nat} {f : Str} (hc : Cls K (ca c)) (hn : NoAttr K (ca c) f) : ∀ σ H Q, RE ca C (.fld c eo f) σ H Q → tFld K (RE ca C eo) f σ H Q := by
  rintro σ H Q ⟨φ, G, O, ρ, T, t, h⟩
  rw [den] at h
  refine ⟨φ, G, O, ρ, T, t, Pc.imp h.bind ?_⟩
  rintro v H1 ⟨φ1, G1, T1, u, f1, s1, r1, h1⟩
  by_cases hk : clsOf O T1 u = some c
  · rw [if_pos hk] at h1
    obtain ⟨i, a, dx, fs, ws, rfl, rfl, hi, hg, h2, h3⟩ := ins_at s1 r1 hk
    have e : fldU O (.ref i) f T1 = fs.lookup f := by unfold fldU; simp only [hg]
    rw [e] at h1
    rcases h3.look f with ⟨e1, e2⟩ | ⟨u', v', e1, e2, e3⟩
    · rw [e1] at h1; exact h1.elim
    · rw [e1] at h1
      exact ⟨a, ca c, dx, ws, v', rfl, h2, hc, hn, e2, Pc.now h1 s1 e3⟩
  · rw [if_neg hk] at h1; exact h1.elim
theorem to_setf {c : Nat} {f : Str} (hc : Cls K (ca c)) (hn : NoAttr K (ca c) f) : ∀ D σ H, RS ca C (.setf c eo f ea) D σ H → sFld K (RE ca C eo) (RE ca C ea) f D σ H := by
  rintro D σ H ⟨φ, G, O, ρ, T, t, h⟩
  rw [denS] at h
  refine ⟨φ, G, O, ρ, T, t, Pc.imp h.of ?_⟩
  rintro v H1 ⟨φ1, G1, T1, u, f1, s1, r1, h1⟩
  refine ⟨φ1, G1, O, ρ, T1, ⟨s1, f1.lo t.l, t.n⟩, Pc.imp h1.of ?_⟩
  rintro x H2 ⟨φ2, G2, T2, w, f2, s2, r2, h2⟩
  by_cases hk : clsOf O T2 w = some c
  · rw [if_pos hk] at h2
    obtain ⟨i, a, dx, fs, ws, rfl, rfl, hi, hg, h3, h4⟩ := ins_at s2 r2 hk
    have e : setfU O (.ref i) f u T2 = if fs.length < 100 then setC O T2 i (.ins c (putFU f u fs)) else .fail := by unfold setfU; simp only [hg]
    rw [e] at h2
    by_cases hz : fs.length < 100
    · rw [if_pos hz] at h2
      refine ⟨a, ca c, dx, ws, rfl, h3, hc, hn, by rw [h4.len]; omega, ?_⟩
      unfold setC at h2
      split at h2
      · rename_i hb
        have hg' := hg
        rw [getC_eq] at hg'
        have s' := s2.write (o := .ins (ca c) dx (putF f v ws)) (c' := .ins c (putFU f u fs)) hi hg' trivial ⟨dx, _, upd_same, h4.put (f2.u r1) f⟩
        rw [set_own _ _ _ _ hb.1] at s'
        rw [F.of_ok] at h2
        exact h2 σ φ2 G2 _ Fut.refl ⟨s', (f1.trans f2).lo t.l, t.n⟩
      · exact h2.elim
    · rw [if_neg hz] at h2; exact h2.elim
  · rw [if_neg hk] at h2; exact h2.elim
theorem to_augf {c : Nat} {f : Str} (hc : Cls K (ca c)) (hn : NoAttr K (ca c) f) : ∀ D σ H, RS ca C (.augf c eo f ea) D σ H → sFldAug K (RE ca C eo) (RE ca C ea) rAdd f D σ H := by
  rintro D σ H ⟨φ, G, O, ρ, T, t, h⟩
  rw [denS] at h
  refine ⟨φ, G, O, ρ, T, t, Pc.imp h.of ?_⟩
  rintro x H1 ⟨φ1, G1, T1, u, f1, s1, r1, h1⟩
  by_cases hk : clsOf O T1 u = some c
  · rw [if_pos hk] at h1
    obtain ⟨i, a, dx, fs, ws, rfl, rfl, hi, hg, h3, h4⟩ := ins_at s1 r1 hk
    have e : fldU O (.ref i) f T1 = fs.lookup f := by unfold fldU; simp only [hg]
    rw [e] at h1
    split at h1
    · rename_i n hl
      rcases h4.look f with ⟨e1, e2⟩ | ⟨u', v', e1, e2, e3⟩
      · rw [e1] at hl; cases hl
      · rw [e1] at hl
        cases hl
        have := rp_int e3; subst this
        refine ⟨a, ca c, dx, ws, _, rfl, h3, hc, hn, e2, φ1, G1, O, ρ, T1, ⟨s1, f1.lo t.l, t.n⟩, Pc.imp h1.of ?_⟩
        rintro y H2 ⟨φ2, G2, T2, w, f2, s2, r2, h2⟩
        split at h2
        · rename_i j
          have := rp_int r2; subst this
          refine ⟨n, j, rfl, rfl, ?_⟩
          by_cases hk2 : clsOf O T2 (.ref i) = some c
          · rw [if_pos hk2] at h2
            obtain ⟨i', a', dx', fs', ws', ei, ea', hi', hg', h3', h4'⟩ := ins_at s2 (f2.u r1) hk2
            cases ei
            cases ea'
            have e : setfU O (.ref i) f (.d (.int (n + j))) T2 = if fs'.length < 100 then setC O T2 i (.ins c (putFU f (.d (.int (n + j))) fs')) else .fail := by unfold setfU; simp only [hg']
            rw [e] at h2
            by_cases hz : fs'.length < 100
            · rw [if_pos hz] at h2
              refine ⟨dx', ws', h3', by rw [h4'.len]; omega, ?_⟩
              unfold setC at h2
              split at h2
              · rename_i hb
                rw [getC_eq] at hg'
                have s' := s2.write (o := .ins (ca c) dx' (putF f (.int (n + j)) ws')) (c' := .ins c (putFU f (.d (.int (n + j))) fs')) hi' hg' trivial ⟨dx', _, upd_same, h4'.put (.d (.int _)) f⟩
                rw [set_own _ _ _ _ hb.1] at s'
                rw [F.of_ok] at h2
                exact h2 σ φ2 G2 _ Fut.refl ⟨s', (f1.trans f2).lo t.l, t.n⟩
              · exact h2.elim
            · rw [if_neg hz] at h2; exact h2.elim
          · rw [if_neg hk2] at h2; exact h2.elim
        · exact h2.elim
    · exact h1.elim
  · rw [if_neg hk] at h1; exact h1.elim
/-- o.m(..), o an instance of a class of the text -/
theorem to_mcall {c f np : Nat} {m : Str} {E : XK} (hlen : ∀ O us T, us.length ≠ np → C.call O f us T = .fail) :
    ∀ σ H Q, RE ca C (.mcall c f m eo as) σ H Q → tMeth (ca c) m (spR ca C.call f np) [] E (RE ca C eo) (RA ca C as) σ H Q := by
  rintro σ H Q ⟨φ, G, O, ρ, T, t, h⟩
  rw [den] at h
  refine ⟨φ, G, O, ρ, T, t, Pc.imp h.bind ?_⟩
  rintro v H1 ⟨φ1, G1, T1, u, f1, s1, r1, h1⟩
  by_cases hk : clsOf O T1 u = some c ∧ (fldU O u m T1).isNone = true
  · rw [if_pos hk] at h1
    obtain ⟨i, a, dx, fs, ws, rfl, rfl, hi, hg, h2, h3⟩ := ins_at s1 r1 hk.1
    have e : fldU O (.ref i) m T1 = fs.lookup m := by unfold fldU; simp only [hg]
    have hnone : ws.lookup m = none := by
      rcases h3.look m with ⟨e1, e2⟩ | ⟨u', v', e1, e2, e3⟩
      · exact e2
      · rw [e, e1] at hk; simp at hk
    refine ⟨a, dx, ws, rfl, h2, hnone, φ1, G1, O, ρ, T1, ⟨s1, f1.lo t.l, t.n⟩, Pc.imp h1.bind ?_⟩
    rintro vs H2 ⟨φ2, G2, T2, us, f2, s2, r2, h2⟩
    rw [List.append_nil]
    by_cases hn : (U.ref i :: us).length = np
    · exact callL_ok hn h2 Fut.refl s2 (.cons (f2.u r1) r2)
    · rw [hlen _ _ _ hn] at h2; exact h2.elim
  · rw [if_neg hk] at h1; exact h1.elim
/-- C(..) -/
theorem to_mk {c f np : Nat} {E : XK} (hlen : ∀ O us T, us.length ≠ np → C.make O f us T = .fail) :
    ∀ σ H Q, RE ca C (.mk c f as) σ H Q → tMake (ca c) (spR ca C.make f np) [] E (RA ca C as) σ H Q := by
  rintro σ H Q ⟨φ, G, O, ρ, T, t, h⟩
  rw [den] at h
  refine ⟨φ, G, O, ρ, T, t, Pc.imp h.bind ?_⟩
  rintro vs H1 ⟨φ1, G1, T1, us, f1, s1, r1, h1⟩
  intro x dx nx ndx hne
  rw [List.append_nil]
  by_cases hn : (U.ref (O.length + T1.length) :: us).length = np
  · have s2 : Sd ca φ1 G1 (upd H1 dx (.own x)) (O ++ T1) := s1.grow ndx
    have nx2 : upd H1 dx (.own x) x = none := by rw [upd_ne (fun e => hne e.symm)]; exact nx
    have s3 := s2.cellNew (o := .ins (ca c) dx []) (c := .ins c []) nx2 ⟨dx, [], upd_same, .nil⟩
    rw [List.append_assoc] at s3
    have hlen2 : φ1.length = O.length + T1.length := by rw [s1.len, List.length_append]
    have hx : (φ1 ++ [x])[O.length + T1.length]? = some x := by rw [← hlen2]; simp
    refine ⟨φ1 ++ [x], G1, O, T1 ++ [.ins c []], _, hn, s3, .cons (.ref hx) (Sd.newF.us r1), ?_⟩
    refine Pc.imp (h1.later Sd.newF).bind ?_
    rintro v H2 ⟨φ2, G2, T2, u, f2, s2', r2, h2⟩
    by_cases hv : isNone u = true
    · rw [if_pos hv] at h2
      have r2 : RpU G2 φ2 v u := r2
      rw [isNone_iff r2, decide_eq_true_eq] at hv
      exact ⟨hv, Pc.now h2 s2' (.ref (f2.pre _ _ hx))⟩
    · rw [if_neg hv] at h2; exact h2.elim
  · rw [hlen _ _ _ hn] at h1; exact h1.elim
def rSet3 (ca : Nat → Addr) : TSet := fun ov iv vv H Q => ∃ φ G O T uo ui uv, Sd ca φ G H (O ++ T) ∧ RpU G φ ov uo ∧ RpU G φ iv ui ∧ RpU G φ vv uv ∧ Pc ca rU φ G O (setiU O uo ui uv T) (fun _ H' => Q H')
theorem RpK.put {v : V} {u : U} (r : RpU G φ v u) (k : Ky) {ws : List (List Key × V)} {kvs : List (Ky × U)} (h : RpK G φ ws kvs) : RpK G φ (L2.putK ws k v) (Y.putK kvs k u) := by
  unfold L2.putK Y.putK
  have e : ∀ {ws : List (List Key × V)} {kvs : List (Ky × U)}, RpK G φ ws kvs → (ws.any fun kv => decide (kv.1 = k)) = kvs.any fun p => decide (p.1 = k) := by
    intro ws kvs h
    induction h with
    | nil => rfl
    | cons h t ih => simp [List.any_cons, ih]
  rw [e h]
  have m : ∀ {ws : List (List Key × V)} {kvs : List (Ky × U)}, RpK G φ ws kvs → RpK G φ (ws.map fun kv => if kv.1 = k then (kv.1, v) else kv) (kvs.map fun p => if p.1 = k then (p.1, u) else p) := by
    intro ws kvs h
    induction h with
    | nil => exact .nil
    | @cons k' v' u' ws kvs h t ih =>
      simp only [List.map_cons]
      by_cases e : k' = k
      · rw [if_pos e, if_pos e]; exact .cons r ih
      · rw [if_neg e, if_neg e]; exact .cons h ih
  have ap : ∀ {ws : List (List Key × V)} {kvs : List (Ky × U)}, RpK G φ ws kvs → RpK G φ (ws ++ [(k, v)]) (kvs ++ [(k, u)]) := by
    intro ws kvs h
    induction h with
    | nil => exact .cons r .nil
    | cons h t ih => exact .cons h ih
  by_cases hb : (kvs.any fun p => decide (p.1 = k)) = true
  · rw [if_pos hb, if_pos hb]; exact m h
  · rw [if_neg hb, if_neg hb]; exact ap h
theorem putK_mapD (kvs : List (Ky × Y.D)) (k : Ky) (x : Y.D) : (Y.putK kvs k x).map (fun p => (p.1, U.d p.2)) = Y.putK (kvs.map fun p => (p.1, U.d p.2)) k (.d x) := by
  unfold Y.putK
  rw [List.any_map]
  have e : ((fun p : Ky × U => decide (p.1 = k)) ∘ fun p : Ky × Y.D => (p.1, U.d p.2)) = fun p => decide (p.1 = k) := rfl
  rw [e]
  by_cases hb : (kvs.any fun p => decide (p.1 = k)) = true
  · rw [if_pos hb, if_pos hb, List.map_map, List.map_map]
    congr 1
    funext p
    simp only [Function.comp]
    by_cases h : p.1 = k
    · rw [if_pos h, if_pos h]
    · rw [if_neg h, if_neg h]
  · rw [if_neg hb, if_neg hb, List.map_append]
    rfl
theorem set_any (hu : X.A.units + 65 < cLine) : PSet X (rSet3 ca) := by
  rintro pins s σ H o i v ov iv u Q I ro ri rv ⟨φ, G, O, T, uo, ui, uv, sd, r1, r2, r3, h⟩
  unfold setiU at h
  split at h
  · cases r1 with
    | ref hi =>
      split at h
      · rename_i ds hc
        obtain ⟨vs, h1, h2⟩ := cell_at sd hi hc
        split at h
        · have := rp_int r2; subst this
          split at h
          · rename_i j hj
            rw [← h2.length] at hj
            split at h
            · cases r3 with
              | d r3 =>
                have h3 : ∀ x, Rp G v x → Rps G (vs.set j v) (ds.set j x) := fun x r => by
                  have := (h2.up (φ := φ)).set (.d r) j
                  rw [← List.map_set] at this
                  exact this.downD
                exact set_list pins s σ H _ _ _ _ _ _ _ I ro ri rv ⟨_, vs, _, j, rfl, rfl, h1, hj, setC_ok h sd hi hc live_lst ⟨_, upd_same, h3 _ r3⟩⟩
            · exact set_list pins s σ H _ _ _ _ _ _ _ I ro ri rv ⟨_, vs, _, j, rfl, rfl, h1, hj, setC_ok h sd hi hc live_lst ⟨_, upd_same, h2.up.set r3 j⟩⟩
          · exact h.elim
        · exact h.elim
      · rename_i ds hc
        obtain ⟨vs, h1, h2⟩ := cell_at sd hi hc
        split at h
        · have := rp_int r2; subst this
          split at h
          · rename_i j hj
            rw [← h2.length] at hj
            exact set_list pins s σ H _ _ _ _ _ _ _ I ro ri rv ⟨_, vs, _, j, rfl, rfl, h1, hj, setC_ok h sd hi hc live_lstU ⟨_, upd_same, h2.set r3 j⟩⟩
          · exact h.elim
        · exact h.elim
      · rename_i kvs hc
        obtain ⟨ws, h1, h2⟩ := cell_at sd hi hc
        split at h
        · rename_i k hk
          obtain ⟨b, rfl, hb⟩ := keyU_ok sd r2 hk
          split at h
          · rename_i hz
            have hz := sizeOk_le hz
            have hl : ws.length ≤ 1000000 := by rw [h2.length]; simpa using hz
            split at h
            · cases r3 with
              | d r3 =>
                obtain rfl : ov = Value.ref _ := ro
                refine d_setItem (by omega) I (DPut.t h1 hb (sz_lt hl)) ri rv fun s' I' => ⟨_, I', setC_ok h sd hi hc trivial ⟨_, upd_same, ?_⟩⟩
                rw [putK_mapD]
                exact h2.put (.d r3) k
            · split at h
              · rename_i he
                have e0 : kvs = [] := by simpa using he
                subst e0
                cases h2
                obtain rfl : ov = Value.ref _ := ro
                exact d_setItem (by omega) I (DPut.t h1 hb (sz_lt hl)) ri rv fun s' I' => ⟨_, I', setC_ok h sd hi hc trivial ⟨_, upd_same, .cons r3 .nil⟩⟩
              · exact h.elim
          · exact h.elim
        · exact h.elim
      · rename_i kvs hc
        obtain ⟨ws, h1, h2⟩ := cell_at sd hi hc
        split at h
        · rename_i k hk
          obtain ⟨b, rfl, hb⟩ := keyU_ok sd r2 hk
          split at h
          · rename_i hz
            have hz := sizeOk_le hz
            have hl : ws.length ≤ 1000000 := by rw [h2.length]; exact hz
            obtain rfl : ov = Value.ref _ := ro
            exact d_setItem (by omega) I (DPut.t h1 hb (sz_lt hl)) ri rv fun s' I' => ⟨_, I', setC_ok h sd hi hc trivial ⟨_, upd_same, h2.put r3 k⟩⟩
          · exact h.elim
        · exact h.elim
      · exact h.elim
  · exact h.elim
theorem to_seti : ∀ D σ H, RS ca C (.seti eo ec ea) D σ H → tAsg (RE ca C ea) (gSub (RE ca C eo) (RE ca C ec) (rSet3 ca)) D σ H := by
  rintro D σ H ⟨φ, G, O, ρ, T, t, h⟩
  rw [denS] at h
  refine ⟨φ, G, O, ρ, T, t, Pc.imp h.of ?_⟩
  rintro v H1 ⟨φ1, G1, T1, u, f1, s1, r1, h1⟩
  refine ⟨φ1, G1, O, ρ, T1, ⟨s1, f1.lo t.l, t.n⟩, Pc.imp h1.of ?_⟩
  rintro x H2 ⟨φ2, G2, T2, w, f2, s2, r2, h2⟩
  refine ⟨φ2, G2, O, ρ, T2, ⟨s2, (f1.trans f2).lo t.l, t.n⟩, Pc.imp h2.of ?_⟩
  rintro y H3 ⟨φ3, G3, T3, z, f3, s3, r3, h3⟩
  refine ⟨φ3, G3, O, T3, w, z, u, s3, f3.u r2, r3, (f2.trans f3).u r1, Pc.imp h3.of ?_⟩
  rintro vv H4 ⟨φ4, G4, T4, q, f4, s4, r4, h4⟩
  exact h4 σ φ4 G4 H4 Fut.refl ⟨s4, (f1.trans (f2.trans (f3.trans f4))).lo t.l, t.n⟩
theorem to_frz : ∀ σ H Q, RE ca C (.frz ea) σ H Q → RE ca C ea σ H Q := by
  rintro σ H Q ⟨φ, G, O, ρ, T, t, h⟩
  rw [den] at h
  refine ⟨φ, G, O, ρ, T, t, Pc.imp h.bind ?_⟩
  rintro v H1 ⟨φ1, G1, T1, u, f1, s1, r1, h1⟩
  unfold frzU at h1
  split at h1
  · split at h1
    · rename_i ds hc
      cases r1 with
      | ref hi =>
        obtain ⟨vs, h2, h3⟩ := cell_at s1 hi hc
        unfold setC at h1
        split at h1
        · rename_i hb
          have hc' := hc
          rw [getC_eq] at hc'
          have s' := s1.freeze (o := .lst vs) hi hc' trivial h2
          have ff := s1.freezeF (o := .lst vs) hi hc' trivial
          rw [set_own _ _ _ _ hb.1] at s'
          exact h1 _ φ1 _ H1 ff s' (.d (.lst (.inl upd_same) (Rps.mono ff.ex _ _ h3)))
        · exact h1.elim
    · exact h1.elim
  · exact Pc.now h1 s1 r1
theorem pe_di : PE X (.Dict [] [] pos) (RE ca C .dict0) := pe_dnewT.imp (by
  rintro σ H Q ⟨φ, G, O, ρ, T, t, h⟩
  rw [den] at h
  intro p np
  have s' := t.s.cellNew (o := .dT []) (c := .dct []) np ⟨[], upd_same, .nil⟩
  rw [List.append_assoc] at s'
  refine h (.ref p) (φ ++ [p]) G _ Sd.newF s' (.ref ?_)
  have e := t.s.len
  rw [List.length_append] at e
  rw [← e]
  simp)
/-- a part of a slice -/
def RP (ca : Nat → Addr) (C : Cn) (c : CE) : TO := fun σ H Q => ∃ φ G O ρ T, At ca φ G H O T σ ρ ∧ Pc ca (fun _ _ (a b : Option Int) => a = b) φ G O (if isSkip c then .ok none T else (den C O ρ c T).bind fun l T => partU l T) Q
theorem po_sk : PO X none (RP ca C .skip) := ⟨fun pins s σ H Q I h => po_none.run pins s σ H Q I (by
  obtain ⟨φ, G, O, ρ, T, t, h⟩ := h
  exact Pc.now (a := none) h t.s rfl)⟩
theorem po_e (h : PE X e (RE ca C ec)) (hs : isSkip ec = false) : PO X (some e) (RP ca C ec) := ⟨fun pins s σ H Q I q => (po_some h).run pins s σ H Q I (by
  obtain ⟨φ, G, O, ρ, T, t, q⟩ := q
  rw [hs, if_neg Bool.false_ne_true] at q
  refine ⟨φ, G, O, ρ, T, t, Pc.imp q.bind ?_⟩
  rintro v H1 ⟨φ1, G1, T1, u, f1, s1, r1, h1⟩
  unfold partU at h1
  split at h1
  · have := rp_int r1
    exact ⟨_, this, Pc.now h1 s1 rfl⟩
  · exact h1.elim)⟩
theorem to_slc {l : Bool} : ∀ σ H Q, RE ca C (.slc l ea eb ec) σ H Q → tSl (rSl ca l) (RE ca C ea) (RP ca C eb) (RP ca C ec) σ H Q := by
  rintro σ H Q ⟨φ, G, O, ρ, T, t, h⟩
  rw [den] at h
  refine ⟨φ, G, O, ρ, T, t, Pc.imp h.bind ?_⟩
  rintro v H1 ⟨φ1, G1, T1, u, f1, s1, r1, h1⟩
  refine ⟨φ1, G1, O, ρ, T1, ⟨s1, f1.lo t.l, t.n⟩, Pc.imp h1.bind ?_⟩
  rintro lo H2 ⟨φ2, G2, T2, w, f2, s2, r2, h2⟩
  have r2 : lo = w := r2
  subst r2
  refine ⟨φ2, G2, O, ρ, T2, ⟨s2, (f1.trans f2).lo t.l, t.n⟩, Pc.imp h2.bind ?_⟩
  rintro hi H3 ⟨φ3, G3, T3, w, f3, s3, r3, h3⟩
  have r3 : hi = w := r3
  subst r3
  exact ⟨φ3, G3, O, T3, u, s3, (f2.trans f3).u r1, h3⟩
theorem tyU_is (s : Sd ca φ G H (O ++ T)) {u : U} {v : V} {m : MT} (r : RpU G φ v u) (hm : mtTy m ≠ .tuple) (e : tyU O T u = some (mtTy m)) : tyV K (tyS (mtTy m)) v H := by
  cases em : mtTy m with
  | list =>
    rw [em] at e
    cases u with
    | d x =>
      cases x <;> simp only [tyU, Option.some.injEq, reduceCtorEq] at e
      cases r with
      | d r => cases r with | lst h1 h2 => exact .inl ⟨rfl, _, .inl (s.ex.rd h1)⟩
    | tup us => simp [tyU] at e
    | ref i =>
      simp only [tyU] at e
      cases r with
      | ref hi =>
        split at e
        · rename_i hc; obtain ⟨vs, h1, _⟩ := cell_at s hi hc; exact .inl ⟨rfl, _, .inl (.inl h1)⟩
        · rename_i hc; obtain ⟨vs, h1, _⟩ := cell_at s hi hc; exact .inl ⟨rfl, _, .inl (.inl h1)⟩
        · cases e
        · cases e
        · cases e
  | dict =>
    rw [em] at e
    cases u with
    | d x => cases x <;> simp [tyU] at e
    | tup us => simp [tyU] at e
    | ref i =>
      simp only [tyU] at e
      cases r with
      | ref hi =>
        split at e
        · cases e
        · cases e
        · rename_i hc; obtain ⟨vs, h1, _⟩ := cell_at s hi hc; exact .inr (.inr (.inl ⟨rfl, .inr ⟨_, h1⟩⟩))
        · rename_i hc; obtain ⟨vs, h1, _⟩ := cell_at s hi hc; exact .inr (.inr (.inl ⟨rfl, .inr ⟨_, h1⟩⟩))
        · cases e
  | str =>
    rw [em] at e
    cases u with
    | d x =>
      cases x <;> simp only [tyU, Option.some.injEq, reduceCtorEq] at e
      cases r with
      | d r => cases r; exact rfl
    | tup us => simp [tyU] at e
    | ref i =>
      simp only [tyU] at e
      split at e <;> cases e
  | tuple => exact absurd em hm
  | non => cases m <;> simp [mtTy] at em
  | bool => cases m <;> simp [mtTy] at em
  | int => cases m <;> simp [mtTy] at em
theorem to_mt {l : Bool} {m : MT} (hm : mtTy m ≠ .tuple) : ∀ σ H Q, RE ca C (.mt l m eo as) σ H Q → tBM K (tyS (mtTy m)) (rMt ca l m) (RE ca C eo) (RA ca C as) σ H Q := by
  rintro σ H Q ⟨φ, G, O, ρ, T, t, h⟩
  rw [den] at h
  refine ⟨φ, G, O, ρ, T, t, Pc.imp h.bind ?_⟩
  rintro v H1 ⟨φ1, G1, T1, u, f1, s1, r1, h1⟩
  by_cases hk : tyU O T1 u = some (mtTy m)
  · rw [if_pos hk] at h1
    refine ⟨tyU_is s1 r1 hm hk, φ1, G1, O, ρ, T1, ⟨s1, f1.lo t.l, t.n⟩, Pc.imp h1.bind ?_⟩
    rintro vs H2 ⟨φ2, G2, T2, us, f2, s2, r2, h2⟩
    exact ⟨φ2, G2, O, T2, u, us, s2, f2.u r1, r2, h2⟩
  · rw [if_neg hk] at h1; exact h1.elim
theorem to_mt0 {l : Bool} {m : MT} (hm : mtTy m ≠ .tuple) : ∀ σ H Q, RE ca C (.mt l m eo .nil) σ H Q → tBM0 K (tyS (mtTy m)) (rMt ca l m) (RE ca C eo) σ H Q := by
  rintro σ H Q ⟨φ, G, O, ρ, T, t, h⟩
  rw [den] at h
  refine ⟨φ, G, O, ρ, T, t, Pc.imp h.bind ?_⟩
  rintro v H1 ⟨φ1, G1, T1, u, f1, s1, r1, h1⟩
  by_cases hk : tyU O T1 u = some (mtTy m)
  · rw [if_pos hk] at h1
    simp only [denA, R.bind_ok] at h1
    exact ⟨tyU_is s1 r1 hm hk, φ1, G1, O, T1, u, [], s1, r1, .nil, h1⟩
  · rw [if_neg hk] at h1; exact h1.elim
theorem to_bi {l : Bool} {b : BI} : ∀ σ H Q, RE ca C (.bi l b as) σ H Q → tCB (rBi ca l b) (RA ca C as) σ H Q := to_opA fun _ _ _ => by rw [den]
theorem to_isi {l : Bool} {b : BI} {t : Ty} (ht : isiB b = some t) : ∀ σ H Q, RE ca C (.bi l b (.cons ea .nil)) σ H Q → tCB (rIsU ca t) (tCons (RE ca C ea) (tCons (tC (.ty (tyS t))) tNil)) σ H Q := by
  rintro σ H Q ⟨φ, G, O, ρ, T, tt, h⟩
  rw [den] at h
  simp only [denA, R.bind_bind, R.bind_ok] at h
  refine ⟨φ, G, O, ρ, T, tt, Pc.imp h.bind ?_⟩
  rintro v H1 ⟨φ1, G1, T1, u, f1, s1, r1, h1⟩
  rw [isiB_eq ht] at h1
  exact ⟨v, φ1, G1, O, T1, u, rfl, s1, r1, h1⟩
end
end Y

set_option Elab.async false
set_option linter.all false
set_option maxRecDepth 100000
set_option maxHeartbeats 1000000
namespace Y
open PySem PySem.Spec PyProof.Rows L2
/-- what is known of the place where a part stands: slots' names N, the scope, which slots may be read here, which may be written; n: calls yet to be had -/
structure Cg (X : Cx) (N : List Str) (sc : Scope) (vm tm : List Bool) (n : Nat) : Prop where
  hN : X.N = N
  hsc : X.env.scope = sc
  nd : N.Nodup
  calm : X.calm = true
  room : Room n X.A
  never : ∀ e s, ¬ X.xe e s
  vis : ∀ (i : Nat) (x : Str), vm[i]? = some true → N[i]? = some x → Vis sc x ∧ (x == ("__debug__" : Str)) = false ∧ (x == ("__classdict__" : Str)) = false
  tgt : ∀ (i : Nat) (x : Str), tm[i]? = some true → N[i]? = some x → Loc sc x ∧ (X.fn x = true ∨ sc.names.lookup x = some .local)
theorem Cg.hu {X : Cx} {N : List Str} {sc : Scope} {vm tm : List Bool} {n : Nat} (g : Cg X N sc vm tm n) : X.A.units + 65 < cLine := by have := g.room.un; omega
def visB (sc : Scope) (x : Str) : Bool := (match sc.names.lookup x with | some .local => true | some .cell => true | some .free => true | _ => false) && !(x == ("__debug__" : Str)) && !(x == ("__classdict__" : Str))
def visAll (N : List Str) (sc : Scope) (vm : List Bool) : Bool := (N.zip vm).all fun p => !p.2 || visB sc p.1
def locB (sc : Scope) (x : Str) : Bool := match sc.names.lookup x with | some .local => true | some .cell => true | _ => false
def tgtAll (N : List Str) (sc : Scope) (tm : List Bool) : Bool := (N.zip tm).all fun p => !p.2 || locB sc p.1
theorem visB_ok {sc : Scope} {x : Str} (h : visB sc x = true) : Vis sc x ∧ (x == ("__debug__" : Str)) = false ∧ (x == ("__classdict__" : Str)) = false := by
  unfold visB at h
  simp only [Bool.and_eq_true, Bool.not_eq_true'] at h
  refine ⟨?_, h.1.2, h.2⟩
  have h1 := h.1.1
  split at h1
  · exact .inl (by assumption)
  · exact .inr (.inl (by assumption))
  · exact .inr (.inr (by assumption))
  · cases h1
theorem locB_ok {sc : Scope} {x : Str} (h : locB sc x = true) : Loc sc x := by
  unfold locB at h
  split at h
  · exact .inl (by assumption)
  · exact .inr (by assumption)
  · cases h
theorem all_zip {α β : Type} {p : α × β → Bool} {xs : List α} {ys : List β} (h : (xs.zip ys).all p = true) {i : Nat} {x : α} {y : β} (hx : xs[i]? = some x) (hy : ys[i]? = some y) : p (x, y) = true := by
  rw [List.all_eq_true] at h
  refine h _ (List.mem_of_getElem? (i := i) ?_)
  rw [List.getElem?_zip_eq_some]
  exact ⟨hx, hy⟩
theorem visAll_ok {N : List Str} {sc : Scope} {vm : List Bool} (h : visAll N sc vm = true) (i : Nat) (x : Str) (h1 : vm[i]? = some true) (h2 : N[i]? = some x) : Vis sc x ∧ (x == ("__debug__" : Str)) = false ∧ (x == ("__classdict__" : Str)) = false :=
  visB_ok (by simpa using all_zip h h2 h1)
/-- a def's own place -/
theorem Cg.ofDef {P : Program} {w : World} {K : PySem.W.Frag} {mg : Str → Option Value} {base : Heap} {N : List Str} {qual : Str} {sc : Scope} {f : Addr} {cdv : Value} {A : Around} {outer : List Env} {s : Shared} {H : Hp} {E : XK} {n : Nat} {vm : List Bool}
    (hn : decide N.Nodup = true) (hv : visAll N sc vm = true) (ht : tgtAll N sc vm = true) (hr : Room n (A.deeper (envOfC qual sc s.heap.objs.size f cdv))) : Cg (cxOf CX0 P w K mg base N qual sc f cdv A outer s H E).nox N sc vm vm n where
  hN := rfl
  hsc := rfl
  nd := of_decide_eq_true hn
  calm := rfl
  room := hr
  never := fun _ _ h => h
  vis := visAll_ok hv
  tgt := fun i x h1 h2 => ⟨locB_ok (by simpa using all_zip ht h2 h1), .inl rfl⟩
def tgtBlk (N : List Str) (scope sc : Scope) (tm : List Bool) : Bool := (N.zip tm).all fun p => !p.2 || (locB sc p.1 && (scope.names.lookup p.1 == some .cell || sc.names.lookup p.1 == some .local))
theorem Cg.blk {X : Cx} {N : List Str} {sc : Scope} {vm tm vm' tm' : List Bool} {n : Nat} (g : Cg X N sc vm tm n) {scope : Scope} (sc' : Scope) (hs : relS scope sc = sc') (hv : visAll N sc' vm' = true) (ht : tgtBlk N scope sc' tm' = true)
    (s : Shared) (H : Hp) (C : Addr) (cl : List (Str × Addr)) (fp : List Addr) : Cg (X.blk s H scope (compEnvC scope cl C X.env) fp) N sc' vm' tm' n where
  hN := g.hN
  hsc := by
    rw [← hs, ← g.hsc]
    rfl
  nd := g.nd
  calm := g.calm
  room := g.room
  never := fun _ _ h => h
  vis := visAll_ok hv
  tgt := fun i x h1 h2 => by
    have h := all_zip ht h2 h1
    simp only [Bool.not_true, Bool.false_or, Bool.and_eq_true, Bool.or_eq_true, beq_iff_eq] at h
    refine ⟨locB_ok h.1, ?_⟩
    rcases h.2 with h | h
    · left
      show (scope.names.lookup x == some .cell) = true
      rw [h] <;> rfl
    · exact .inr h
theorem bt_len : bootBuiltins "len" = some (.builtin "len") := by decide +kernel
theorem bt_list : bootBuiltins "list" = some (.type "list") := by decide +kernel
theorem bt_tuple : bootBuiltins "tuple" = some (.type "tuple") := by decide +kernel
theorem bt_sum : bootBuiltins "sum" = some (.builtin "sum") := by decide +kernel
theorem bt_all : bootBuiltins "all" = some (.builtin "all") := by decide +kernel
theorem bt_any : bootBuiltins "any" = some (.builtin "any") := by decide +kernel
theorem bt_int : bootBuiltins "int" = some (.type "int") := by decide +kernel
theorem bt_str : bootBuiltins "str" = some (.type "str") := by decide +kernel
theorem bt_abs : bootBuiltins "abs" = some (.builtin "abs") := by decide +kernel
theorem bt_max : bootBuiltins "max" = some (.builtin "max") := by decide +kernel
theorem bt_min : bootBuiltins "min" = some (.builtin "min") := by decide +kernel
theorem bt_isinstance : bootBuiltins "isinstance" = some (.builtin "isinstance") := by decide +kernel
theorem bt_bool : bootBuiltins "bool" = some (.type "bool") := by decide +kernel
theorem bt_dict : bootBuiltins "dict" = some (.type "dict") := by decide +kernel
section
variable {ca : Nat → Addr} {O T : Cs} {X : Cx} {C : Cn} {pos p apos cpos tpos pos' p2 : Pos} {a b c e tg o i iter elt st : Expr} {ea eb ec eo : CE} {as : CA} {es rest : List Expr} {N : List Str} {sc sc' : Scope} {vm tm vm' tm' : List Bool} {n j np : Nat} {x m f : Str}
theorem y_v (g : Cg X N sc vm tm n) (i : Nat) (hN : N[i]? = some x := by rfl) (hv : vm[i]? = some true := by rfl) : PE X (.Name x pos) (RE ca C (.v i)) :=
  have h := g.vis i x hv hN
  pe_v (g.hN ▸ hN) (g.hsc ▸ h.1) h.2.1 h.2.2
theorem y_int {k : Int} {jj : Nat} : PE X (.Constant (.int k) jj pos) (RE ca C (.c (.int k))) := pe_c (fun _ => .int k) pe_int
theorem y_bl {k : Bool} {jj : Nat} : PE X (.Constant (.bool k) jj pos) (RE ca C (.c (.bool k))) := pe_c (fun _ => .bl k) pe_bl
theorem y_str {k : Str} {jj : Nat} : PE X (.Constant (.str k) jj pos) (RE ca C (.c (.str k))) := pe_c (fun _ => .str k) pe_str
theorem y_non {jj : Nat} : PE X (.Constant .none jj pos) (RE ca C (.c .none)) := pe_c (fun _ => .non) pe_non
theorem gl_of (g : Cg X N sc vm tm n) (h : sc.names.lookup x = some .globalImplicit) : Gl X x := by
  show X.env.scope.names.lookup x = _
  rw [g.hsc]
  exact h
/-- a constant of the module -/
theorem y_g (g : Cg X N sc vm tm n) {k : Nat} {d : Y.D} (hm : ∃ u v, X.mg x = some u ∧ RelV v u ∧ ∀ G, Rp G v d) (hk : C.glob k = some d) (hg : sc.names.lookup x = some .globalImplicit := by rfl) (hd : (x == ("__debug__" : Str)) = false := by decide) : PE X (.Name x pos) (RE ca C (.g k)) := by
  obtain ⟨u, v, h1, h2, h3⟩ := hm
  refine (pe_glob (gl_of g hg) h1 h2 hd).imp fun σ H Q => ?_
  rintro ⟨φ, G, O, ρ, T, t, h⟩
  rw [den, hk] at h
  exact Pc.now h t.s (.d (h3 G))
theorem un_neg' : UnR X (unaryOp .USub) (rOp1 ca fun O x T => match x with
    | .d (.int i) => .ok (.d (.int (-i))) T
    | _ => .fail) := by
  rintro pins s σ H x v Q I rx ⟨φ, G, O, T, u, sd, r, h⟩
  have k : ∀ i, u = .d (.int i) → wpAny (model X.prog X.w) X.A (unaryOp .USub v) (EP X pins σ Q) X.xe s := fun i e => by
    subst e
    have := rp_int r; subst this
    exact un_neg pins s σ H _ v Q I rx ⟨_, rfl, Pc.now h sd (.d (.int _))⟩
  cases u with
  | d x => cases x <;> first | exact k _ rfl | exact h.elim
  | ref _ => exact h.elim
  | tup _ => exact h.elim
theorem y_neg (ha : PE X a (RE ca C ea)) : PE X (.UnaryOp .USub a pos) (RE ca C (.neg ea)) := (pe_un un_neg' ha).imp (to_op1 fun _ _ _ => by rw [den] <;> rfl)
theorem y_bin {l : Bool} {o : Op} (ha : PE X a (RE ca C ea)) (hb : PE X b (RE ca C eb)) : PE X (.BinOp a (opS o) b pos) (RE ca C (.bin l o ea eb)) := pe_bin (op_bin o l) ha hb
theorem y_cm (g : Cg X N sc vm tm n) {o : COp} (ha : PE X a (RE ca C ea)) (hb : PE X b (RE ca C eb)) (hm : behindInMarks (copS o) b = false := by rfl) : PE X (.Compare a [copS o] [b] pos) (RE ca C (.cmp o ea eb)) := pe_cm (op_cmp o g.hu) ha hb hm
theorem y_ch (g : Cg X N sc vm tm n) {o o' : COp} (ha : PE X a (RE ca C ea)) (hb : PE X b (RE ca C eb)) (he : PE X e (RE ca C ec)) (hm : lastMarks [copS o, copS o'] [b, e] = false := by rfl) :
    PE X (.Compare a [copS o, copS o'] [b, e] pos) (RE ca C (.chain o o' ea eb ec)) := pe_ch (op_cmp o g.hu) (op_cmp o' g.hu) ha hb he hm
theorem y_and (ha : PE X a (RE ca C ea)) (hb : PE X (.BoolOp .And (b :: rest) pos) (RE ca C eb)) : PE X (.BoolOp .And (a :: b :: rest) pos) (RE ca C (.and ea eb)) := (pe_and ha hb).imp to_and
theorem y_or (ha : PE X a (RE ca C ea)) (hb : PE X (.BoolOp .Or (b :: rest) pos) (RE ca C eb)) : PE X (.BoolOp .Or (a :: b :: rest) pos) (RE ca C (.or ea eb)) := (pe_or ha hb).imp to_or
theorem y_one {op : BoolOp} (ha : PE X a (RE ca C ea)) : PE X (.BoolOp op [a] pos) (RE ca C ea) := pe_one ha
theorem y_not (ha : PE X a (RE ca C ea)) : PE X (.UnaryOp .Not a pos) (RE ca C (.not ea)) := (pe_not ha).imp to_not
theorem y_if (hc : PT X c (RT ca C ec)) (ha : PE X a (RE ca C ea)) (hb : PE X b (RE ca C eb)) : PE X (.IfExp c a b pos) (RE ca C (.ite ec ea eb)) := (pe_ifExp hc ha hb).imp to_ite
theorem t_cm (g : Cg X N sc vm tm n) {o : COp} (ha : PE X a (RE ca C ea)) (hb : PE X b (RE ca C eb)) (hm : behindInMarks (copS o) b = false := by rfl) : PT X (.Compare a [copS o] [b] pos) (RT ca C (.cmp o ea eb)) := pt_cm (op_cmp o g.hu) ha hb hm
theorem t_ch (g : Cg X N sc vm tm n) {o o' : COp} (ha : PE X a (RE ca C ea)) (hb : PE X b (RE ca C eb)) (he : PE X e (RE ca C ec)) (hm : lastMarks [copS o, copS o'] [b, e] = false := by rfl) :
    PT X (.Compare a [copS o, copS o'] [b, e] pos) (RT ca C (.chain o o' ea eb ec)) := pt_ch (op_cmp o g.hu) (op_cmp o' g.hu) ha hb he hm
theorem t_e (h : PE X e (RE ca C ea)) (he : ∀ whole, isTrue e X.env whole = (do let v ← whole; standAt e.pos; holding [v] (truthy v)) := by intro _; rfl) : PT X e (RT ca C ea) := pt_e h he
theorem w_and (ha : PT X a (RT ca C ea)) (hb : PW X (.BoolOp .And (b :: rest) pos) (RT ca C eb)) : PW X (.BoolOp .And (a :: b :: rest) pos) (RT ca C (.and ea eb)) := (pw_and ha hb).imp to_andT
theorem w_or (ha : PT X a (RT ca C ea)) (hb : PW X (.BoolOp .Or (b :: rest) pos) (RT ca C eb)) : PW X (.BoolOp .Or (a :: b :: rest) pos) (RT ca C (.or ea eb)) := (pw_or ha hb).imp to_orT
theorem w_and1 (ha : PT X a (RT ca C ea)) : PW X (.BoolOp .And [a] pos) (RT ca C ea) := pw_and1 ha
theorem w_or1 (ha : PT X a (RT ca C ea)) : PW X (.BoolOp .Or [a] pos) (RT ca C ea) := pw_or1 ha
theorem t_w (h : PW X e (RT ca C ea)) : PT X e (RT ca C ea) := h.pt
theorem t_not (ha : PT X a (RT ca C ea)) : PT X (.UnaryOp .Not a pos) (RT ca C (.not ea)) := (pt_not ha).imp to_notT
theorem a_nil : PA X [] (RA ca C .nil) := pa_nil'
theorem a_cons (ha : PE X a (RE ca C ea)) (hr : PA X es (RA ca C as)) (hs : starEach (a :: es) X.env = (false, eval a X.env) :: starEach es X.env := by rfl) : PA X (a :: es) (RA ca C (.cons ea as)) := pa_cons' ha hr hs
theorem y_tup {k : Nat} (h : PA X es (RA ca C as)) : PE X (.Tuple es k pos) (RE ca C (.tup as)) := pe_tu h
theorem y_lst {l : Bool} (h : PA X es (RA ca C as)) : PE X (.List es pos) (RE ca C (.lst l as)) := pe_li h
theorem y_ix (g : Cg X N sc vm tm n) (ha : PE X a (RE ca C ea)) (hb : PE X b (RE ca C eb)) (hs : PlainIx b := by exact fun _ _ => rfl) : PE X (.Subscript a b pos) (RE ca C (.ix ea eb)) := pe_sub (ix := eb) (ix_any g.hu) ha hb hs
theorem y_slc {l : Bool} {lo hi : Option Expr} (ha : PE X a (RE ca C ea)) (hl : PO X lo (RP ca C eb)) (hh : PO X hi (RP ca C ec)) : PE X (.Subscript a (.Slice lo hi none p2) pos) (RE ca C (.slc l ea eb ec)) := (pe_slice (sl_any l) ha hl hh).imp to_slc
theorem o_sk : PO X none (RP ca C .skip) := po_sk
theorem o_e (h : PE X e (RE ca C ec)) (hs : isSkip ec = false := by rfl) : PO X (some e) (RP ca C ec) := po_e h hs
theorem y_frz (h : PE X e (RE ca C ea)) : PE X e (RE ca C (.frz ea)) := h.imp to_frz
theorem y_dict0 : PE X (.Dict [] [] pos) (RE ca C .dict0) := pe_di
/-- a def that may be called by the name x -/
structure CalY (P : Program) (w : World) (K : PySem.W.Frag) (mg : Str → Option Value) (base : Heap) (ca : Nat → Addr) (call : Cs → Nat → List U → Cs → R U) (n j np : Nat) (x : Str) (ds : List Y.D) : Prop where
  ex : ∃ (f : Addr) (fd : FuncData) (ps : List Str) (dvs : List V) (dus : List Value), FnOk P w K mg base CX0 n f fd ps (spR ca call j np) ∧ mg x = some (.ref f) ∧ PySem.W.keepIn K (.ref f) = true ∧ Binds K fd ps dus ∧ Vals dvs dus ∧ ∀ G, Rps G dvs ds
  len : ∀ O us T, us.length ≠ np → call O j us T = .fail
theorem y_call (g : Cg X N sc vm tm n) {l : Bool} {ds : List Y.D} (F : CalY X.prog X.w X.K X.mg X.base ca C.call n j np x ds) (ha : PA X (e :: es) (RA ca C as)) (hg : sc.names.lookup x = some .globalImplicit := by rfl) (hdb : (x == ("__debug__" : Str)) = false := by decide)
    (he : starEach (e :: es) X.env = (false, eval e X.env) :: starEach es X.env := by rfl) (hpl : (backTo pos (starEach es X.env)).any (·.1) = false := by rfl) : PE X (.Call (.Name x p) (e :: es) [] pos) (RE ca C (.call l j as ds)) := by
  obtain ⟨f, fd, ps, dvs, dus, h1, h2, h3, h4, h5, h6⟩ := F.ex
  exact (pe_call h1 g.room (gl_of g hg) h2 h3 h4 h5 (E := E0) pass0 ha hdb he hpl).imp (to_call h6 F.len)
theorem y_call0 (g : Cg X N sc vm tm n) {l : Bool} {ds : List Y.D} (F : CalY X.prog X.w X.K X.mg X.base ca C.call n j np x ds) (hg : sc.names.lookup x = some .globalImplicit := by rfl) (hdb : (x == ("__debug__" : Str)) = false := by decide) :
    PE X (.Call (.Name x p) [] [] pos) (RE ca C (.call l j .nil ds)) := by
  obtain ⟨f, fd, ps, dvs, dus, h1, h2, h3, h4, h5, h6⟩ := F.ex
  refine (pe_call0 h1 g.room (gl_of g hg) h2 h3 h4 h5 (E := E0) pass0 hdb).imp fun σ H Q h => ?_
  have := to_call h6 F.len σ H Q h (E := E0)
  obtain ⟨φ, G, O, ρ, T, t, q⟩ := this
  exact Pc.now q t.s .nil
/-- a method -/
structure MetY (P : Program) (w : World) (K : PySem.W.Frag) (mg : Str → Option Value) (base : Heap) (ca : Nat → Addr) (call : Cs → Nat → List U → Cs → R U) (n c j np : Nat) (m : Str) : Prop where
  ex : ∃ (f : Addr) (fd : FuncData) (ps : List Str), Cls K (ca c) ∧ Meth K (ca c) m f ∧ FnOk P w K mg base CX0 n f fd ps (spR ca call j np) ∧ Binds K fd ps []
  len : ∀ O us T, us.length ≠ np → call O j us T = .fail
theorem y_mc {pl : Sem Bool} (g : Cg X N sc vm tm n) {c : Nat} (F : MetY X.prog X.w X.K X.mg X.base ca C.call n c j np m) (ho : PE X o (RE ca C eo)) (ha : PA X (e :: es) (RA ca C as))
    (hst : starEach (e :: es) X.env = (false, eval e X.env) :: starEach es X.env := by rfl) (hpl : (backTo pos (starEach es X.env)).any (·.1) = false := by rfl)
    (ht : eval (.Call (.Attribute o m apos) (e :: es) [] pos) X.env = (do
      let ov ← eval o X.env
      standAt apos.atName
      let (f, first) ← holding [ov] (getMethod ov m pl)
      callWith pos f first (backTo pos (starEach (e :: es) X.env)) (backToKw pos (keywordEach [] X.env))) := by rfl) : PE X (.Call (.Attribute o m apos) (e :: es) [] pos) (RE ca C (.mcall c j m eo as)) := by
  obtain ⟨f, fd, ps, h1, h2, h3, h4⟩ := F.ex
  exact (pe_meth (E := E0) ho h1 h2 h3 g.room h4 .nil pass0 ha hst hpl ht).imp (to_mcall F.len)
theorem y_mc0 {pl : Sem Bool} (g : Cg X N sc vm tm n) {c : Nat} (F : MetY X.prog X.w X.K X.mg X.base ca C.call n c j np m) (ho : PE X o (RE ca C eo))
    (ht : eval (.Call (.Attribute o m apos) [] [] pos) X.env = (do
      let ov ← eval o X.env
      standAt apos.atName
      let (f, first) ← holding [ov] (getMethod ov m pl)
      callWith pos f first (backTo pos (starEach [] X.env)) (backToKw pos (keywordEach [] X.env))) := by rfl) : PE X (.Call (.Attribute o m apos) [] [] pos) (RE ca C (.mcall c j m eo .nil)) := by
  obtain ⟨f, fd, ps, h1, h2, h3, h4⟩ := F.ex
  refine (pe_meth0 (E := E0) ho h1 h2 h3 g.room h4 .nil pass0 ht).imp fun σ H Q h => ?_
  have := to_mcall (E := E0) F.len σ H Q h
  obtain ⟨φ, G, O, ρ, T, t, q⟩ := this
  refine ⟨φ, G, O, ρ, T, t, Pc.imp q ?_⟩
  rintro v H1 ⟨a, dx, fs, e1, e2, e3, φ1, G1, O1, ρ1, T1, t1, q1⟩
  exact ⟨a, dx, fs, e1, e2, e3, Pc.now q1 t1.s .nil⟩
/-- a class made by its name -/
structure MakY (P : Program) (w : World) (K : PySem.W.Frag) (mg : Str → Option Value) (base : Heap) (ca : Nat → Addr) (make : Cs → Nat → List U → Cs → R U) (n c j np : Nat) (x : Str) : Prop where
  ex : ∃ (k : Nat) (f : Addr) (fd : FuncData) (ps : List Str), n = k + 1 ∧ Mk K (ca c) f ∧ FnOk P w K mg base CX0 k f fd ps (spR ca make j np) ∧ mg x = some (.ref (ca c)) ∧ Binds K fd ps []
  len : ∀ O us T, us.length ≠ np → make O j us T = .fail
theorem y_mk (g : Cg X N sc vm tm n) {c : Nat} (F : MakY X.prog X.w X.K X.mg X.base ca C.make n c j np x) (ha : PA X (e :: es) (RA ca C as)) (hg : sc.names.lookup x = some .globalImplicit := by rfl) (hdb : (x == ("__debug__" : Str)) = false := by decide)
    (he : starEach (e :: es) X.env = (false, eval e X.env) :: starEach es X.env := by rfl) (hpl : (backTo pos (starEach es X.env)).any (·.1) = false := by rfl) : PE X (.Call (.Name x p) (e :: es) [] pos) (RE ca C (.mk c j as)) := by
  obtain ⟨k, f, fd, ps, rfl, h1, h2, h3, h4⟩ := F.ex
  exact (pe_make (E := E0) h1 h2 g.room (gl_of g hg) h3 h4 .nil pass0 ha hdb he hpl).imp (to_mk F.len)
theorem y_mk0 (g : Cg X N sc vm tm n) {c : Nat} (F : MakY X.prog X.w X.K X.mg X.base ca C.make n c j np x) (hg : sc.names.lookup x = some .globalImplicit := by rfl) (hdb : (x == ("__debug__" : Str)) = false := by decide) :
    PE X (.Call (.Name x p) [] [] pos) (RE ca C (.mk c j .nil)) := by
  obtain ⟨k, f, fd, ps, rfl, h1, h2, h3, h4⟩ := F.ex
  refine (pe_make0 (E := E0) h1 h2 g.room (gl_of g hg) h3 h4 .nil pass0 hdb).imp fun σ H Q h => ?_
  obtain ⟨φ, G, O, ρ, T, t, q⟩ := to_mk (E := E0) F.len σ H Q h
  exact Pc.now q t.s .nil
theorem y_fld {c : Nat} (F : Cls X.K (ca c) ∧ NoAttr X.K (ca c) f) (ho : PE X o (RE ca C eo)) (hb : attributeBase o f X.env (eval o X.env) = eval o X.env := by rfl) : PE X (.Attribute o f pos) (RE ca C (.fld c eo f)) :=
  (pe_fld ho hb).imp (to_fld F.1 F.2)
theorem y_cb (g : Cg X N sc vm tm n) {l : Bool} {bi : BI} {id : String} (hc : CallR X (.builtin id) (rBi ca l bi)) (hm : X.mg x = none) (hv : bootBuiltins x = some (.builtin id)) (ha : PA X (e :: es) (RA ca C as)) (hg : sc.names.lookup x = some .globalImplicit := by rfl) (hn : x ≠ "__name__" := by decide) (hdb : (x == ("__debug__" : Str)) = false := by decide)
    (he : starEach (e :: es) X.env = (false, eval e X.env) :: starEach es X.env := by rfl) (hpl : (backTo pos (starEach es X.env)).any (·.1) = false := by rfl) : PE X (.Call (.Name x p) (e :: es) [] pos) (RE ca C (.bi l bi as)) :=
  (pe_callB hc (gl_of g hg) hm hv ha hn hdb he hpl).imp to_bi
theorem y_cty (g : Cg X N sc vm tm n) {l : Bool} {bi : BI} {Tn : String} (hc : CallR X (.type Tn) (rBi ca l bi)) (hm : X.mg x = none) (hv : bootBuiltins x = some (.type Tn)) (ha : PA X (e :: es) (RA ca C as)) (hg : sc.names.lookup x = some .globalImplicit := by rfl) (hn : x ≠ "__name__" := by decide) (hdb : (x == ("__debug__" : Str)) = false := by decide)
    (he : starEach (e :: es) X.env = (false, eval e X.env) :: starEach es X.env := by rfl) (hpl : (backTo pos (starEach es X.env)).any (·.1) = false := by rfl) : PE X (.Call (.Name x p) (e :: es) [] pos) (RE ca C (.bi l bi as)) :=
  (pe_callTy hc (gl_of g hg) hm hv ha hn hdb he hpl).imp to_bi
theorem f_len (g : Cg X N sc vm tm n) {l : Bool} (hm : X.mg "len" = none) (ha : PA X (e :: es) (RA ca C as)) (hg : sc.names.lookup ("len" : Str) = some .globalImplicit := by rfl)
    (he : starEach (e :: es) X.env = (false, eval e X.env) :: starEach es X.env := by rfl) (hpl : (backTo pos (starEach es X.env)).any (·.1) = false := by rfl) : PE X (.Call (.Name "len" p) (e :: es) [] pos) (RE ca C (.bi l .len as)) :=
  y_cb g (cr_len) hm bt_len ha hg (by decide) (by decide) he hpl
theorem f_list (g : Cg X N sc vm tm n) {l : Bool} (hm : X.mg "list" = none) (ha : PA X (e :: es) (RA ca C as)) (hg : sc.names.lookup ("list" : Str) = some .globalImplicit := by rfl)
    (he : starEach (e :: es) X.env = (false, eval e X.env) :: starEach es X.env := by rfl) (hpl : (backTo pos (starEach es X.env)).any (·.1) = false := by rfl) : PE X (.Call (.Name "list" p) (e :: es) [] pos) (RE ca C (.bi l .list as)) :=
  y_cty g (cr_list) hm bt_list ha hg (by decide) (by decide) he hpl
theorem f_tuple (g : Cg X N sc vm tm n) {l : Bool} (hm : X.mg "tuple" = none) (ha : PA X (e :: es) (RA ca C as)) (hg : sc.names.lookup ("tuple" : Str) = some .globalImplicit := by rfl)
    (he : starEach (e :: es) X.env = (false, eval e X.env) :: starEach es X.env := by rfl) (hpl : (backTo pos (starEach es X.env)).any (·.1) = false := by rfl) : PE X (.Call (.Name "tuple" p) (e :: es) [] pos) (RE ca C (.bi l .tuple as)) :=
  y_cty g (cr_tuple) hm bt_tuple ha hg (by decide) (by decide) he hpl
theorem f_sum (g : Cg X N sc vm tm n) {l : Bool} (hm : X.mg "sum" = none) (ha : PA X (e :: es) (RA ca C as)) (hg : sc.names.lookup ("sum" : Str) = some .globalImplicit := by rfl)
    (he : starEach (e :: es) X.env = (false, eval e X.env) :: starEach es X.env := by rfl) (hpl : (backTo pos (starEach es X.env)).any (·.1) = false := by rfl) : PE X (.Call (.Name "sum" p) (e :: es) [] pos) (RE ca C (.bi l .sum as)) :=
  y_cb g (cr_sum' g.calm) hm bt_sum ha hg (by decide) (by decide) he hpl
theorem f_all (g : Cg X N sc vm tm n) {l : Bool} (hm : X.mg "all" = none) (ha : PA X (e :: es) (RA ca C as)) (hg : sc.names.lookup ("all" : Str) = some .globalImplicit := by rfl)
    (he : starEach (e :: es) X.env = (false, eval e X.env) :: starEach es X.env := by rfl) (hpl : (backTo pos (starEach es X.env)).any (·.1) = false := by rfl) : PE X (.Call (.Name "all" p) (e :: es) [] pos) (RE ca C (.bi l .all as)) :=
  y_cb g (cr_all' g.calm) hm bt_all ha hg (by decide) (by decide) he hpl
theorem f_any (g : Cg X N sc vm tm n) {l : Bool} (hm : X.mg "any" = none) (ha : PA X (e :: es) (RA ca C as)) (hg : sc.names.lookup ("any" : Str) = some .globalImplicit := by rfl)
    (he : starEach (e :: es) X.env = (false, eval e X.env) :: starEach es X.env := by rfl) (hpl : (backTo pos (starEach es X.env)).any (·.1) = false := by rfl) : PE X (.Call (.Name "any" p) (e :: es) [] pos) (RE ca C (.bi l .any as)) :=
  y_cb g (cr_any' g.calm) hm bt_any ha hg (by decide) (by decide) he hpl
theorem f_int (g : Cg X N sc vm tm n) {l : Bool} (hm : X.mg "int" = none) (ha : PA X (e :: es) (RA ca C as)) (hg : sc.names.lookup ("int" : Str) = some .globalImplicit := by rfl)
    (he : starEach (e :: es) X.env = (false, eval e X.env) :: starEach es X.env := by rfl) (hpl : (backTo pos (starEach es X.env)).any (·.1) = false := by rfl) : PE X (.Call (.Name "int" p) (e :: es) [] pos) (RE ca C (.bi l .int as)) :=
  y_cty g (cr_int) hm bt_int ha hg (by decide) (by decide) he hpl
theorem f_str (g : Cg X N sc vm tm n) {l : Bool} (hm : X.mg "str" = none) (ha : PA X (e :: es) (RA ca C as)) (hg : sc.names.lookup ("str" : Str) = some .globalImplicit := by rfl)
    (he : starEach (e :: es) X.env = (false, eval e X.env) :: starEach es X.env := by rfl) (hpl : (backTo pos (starEach es X.env)).any (·.1) = false := by rfl) : PE X (.Call (.Name "str" p) (e :: es) [] pos) (RE ca C (.bi l .str as)) :=
  y_cty g (cr_str) hm bt_str ha hg (by decide) (by decide) he hpl
theorem f_abs (g : Cg X N sc vm tm n) {l : Bool} (hm : X.mg "abs" = none) (ha : PA X (e :: es) (RA ca C as)) (hg : sc.names.lookup ("abs" : Str) = some .globalImplicit := by rfl)
    (he : starEach (e :: es) X.env = (false, eval e X.env) :: starEach es X.env := by rfl) (hpl : (backTo pos (starEach es X.env)).any (·.1) = false := by rfl) : PE X (.Call (.Name "abs" p) (e :: es) [] pos) (RE ca C (.bi l .abs as)) :=
  y_cb g (cr_abs) hm bt_abs ha hg (by decide) (by decide) he hpl
theorem f_max2 (g : Cg X N sc vm tm n) {l : Bool} (hm : X.mg "max" = none) (ha : PA X (e :: es) (RA ca C as)) (hg : sc.names.lookup ("max" : Str) = some .globalImplicit := by rfl)
    (he : starEach (e :: es) X.env = (false, eval e X.env) :: starEach es X.env := by rfl) (hpl : (backTo pos (starEach es X.env)).any (·.1) = false := by rfl) : PE X (.Call (.Name "max" p) (e :: es) [] pos) (RE ca C (.bi l .max2 as)) :=
  y_cb g (cr_max2 g.calm) hm bt_max ha hg (by decide) (by decide) he hpl
theorem f_min2 (g : Cg X N sc vm tm n) {l : Bool} (hm : X.mg "min" = none) (ha : PA X (e :: es) (RA ca C as)) (hg : sc.names.lookup ("min" : Str) = some .globalImplicit := by rfl)
    (he : starEach (e :: es) X.env = (false, eval e X.env) :: starEach es X.env := by rfl) (hpl : (backTo pos (starEach es X.env)).any (·.1) = false := by rfl) : PE X (.Call (.Name "min" p) (e :: es) [] pos) (RE ca C (.bi l .min2 as)) :=
  y_cb g (cr_min2 g.calm) hm bt_min ha hg (by decide) (by decide) he hpl
theorem f_isint (g : Cg X N sc vm tm n) {l : Bool} (hm : X.mg "isinstance" = none) (hm2 : X.mg "int" = none) (ha : PE X e (RE ca C ea)) (hg : sc.names.lookup ("isinstance" : Str) = some .globalImplicit := by rfl) (hg2 : sc.names.lookup ("int" : Str) = some .globalImplicit := by rfl)
    (he : starEach [e, .Name "int" p2] X.env = (false, eval e X.env) :: starEach [.Name "int" p2] X.env := by rfl) : PE X (.Call (.Name "isinstance" p) [e, .Name "int" p2] [] pos) (RE ca C (.bi l .isint (.cons ea .nil))) :=
  (pe_callB (cr_isi (ca := ca) (t := .int) (by decide)) (gl_of g hg) hm bt_isinstance (pa_cons ha (pa_cons (pe_bltn (gl_of g hg2) hm2 bt_int (v := .ty (tyS .int)) rfl (by decide) (by decide)) pa_nil rfl) he) (by decide) (by decide) he rfl).imp (to_isi rfl)
theorem f_isbool (g : Cg X N sc vm tm n) {l : Bool} (hm : X.mg "isinstance" = none) (hm2 : X.mg "bool" = none) (ha : PE X e (RE ca C ea)) (hg : sc.names.lookup ("isinstance" : Str) = some .globalImplicit := by rfl) (hg2 : sc.names.lookup ("bool" : Str) = some .globalImplicit := by rfl)
    (he : starEach [e, .Name "bool" p2] X.env = (false, eval e X.env) :: starEach [.Name "bool" p2] X.env := by rfl) : PE X (.Call (.Name "isinstance" p) [e, .Name "bool" p2] [] pos) (RE ca C (.bi l .isbool (.cons ea .nil))) :=
  (pe_callB (cr_isi (ca := ca) (t := .bool) (by decide)) (gl_of g hg) hm bt_isinstance (pa_cons ha (pa_cons (pe_bltn (gl_of g hg2) hm2 bt_bool (v := .ty (tyS .bool)) rfl (by decide) (by decide)) pa_nil rfl) he) (by decide) (by decide) he rfl).imp (to_isi rfl)
theorem f_isstr (g : Cg X N sc vm tm n) {l : Bool} (hm : X.mg "isinstance" = none) (hm2 : X.mg "str" = none) (ha : PE X e (RE ca C ea)) (hg : sc.names.lookup ("isinstance" : Str) = some .globalImplicit := by rfl) (hg2 : sc.names.lookup ("str" : Str) = some .globalImplicit := by rfl)
    (he : starEach [e, .Name "str" p2] X.env = (false, eval e X.env) :: starEach [.Name "str" p2] X.env := by rfl) : PE X (.Call (.Name "isinstance" p) [e, .Name "str" p2] [] pos) (RE ca C (.bi l .isstr (.cons ea .nil))) :=
  (pe_callB (cr_isi (ca := ca) (t := .str) (by decide)) (gl_of g hg) hm bt_isinstance (pa_cons ha (pa_cons (pe_bltn (gl_of g hg2) hm2 bt_str (v := .ty (tyS .str)) rfl (by decide) (by decide)) pa_nil rfl) he) (by decide) (by decide) he rfl).imp (to_isi rfl)
theorem f_islist (g : Cg X N sc vm tm n) {l : Bool} (hm : X.mg "isinstance" = none) (hm2 : X.mg "list" = none) (ha : PE X e (RE ca C ea)) (hg : sc.names.lookup ("isinstance" : Str) = some .globalImplicit := by rfl) (hg2 : sc.names.lookup ("list" : Str) = some .globalImplicit := by rfl)
    (he : starEach [e, .Name "list" p2] X.env = (false, eval e X.env) :: starEach [.Name "list" p2] X.env := by rfl) : PE X (.Call (.Name "isinstance" p) [e, .Name "list" p2] [] pos) (RE ca C (.bi l .islist (.cons ea .nil))) :=
  (pe_callB (cr_isi (ca := ca) (t := .list) (by decide)) (gl_of g hg) hm bt_isinstance (pa_cons ha (pa_cons (pe_bltn (gl_of g hg2) hm2 bt_list (v := .ty (tyS .list)) rfl (by decide) (by decide)) pa_nil rfl) he) (by decide) (by decide) he rfl).imp (to_isi rfl)
theorem f_istuple (g : Cg X N sc vm tm n) {l : Bool} (hm : X.mg "isinstance" = none) (hm2 : X.mg "tuple" = none) (ha : PE X e (RE ca C ea)) (hg : sc.names.lookup ("isinstance" : Str) = some .globalImplicit := by rfl) (hg2 : sc.names.lookup ("tuple" : Str) = some .globalImplicit := by rfl)
    (he : starEach [e, .Name "tuple" p2] X.env = (false, eval e X.env) :: starEach [.Name "tuple" p2] X.env := by rfl) : PE X (.Call (.Name "isinstance" p) [e, .Name "tuple" p2] [] pos) (RE ca C (.bi l .istuple (.cons ea .nil))) :=
  (pe_callB (cr_isi (ca := ca) (t := .tuple) (by decide)) (gl_of g hg) hm bt_isinstance (pa_cons ha (pa_cons (pe_bltn (gl_of g hg2) hm2 bt_tuple (v := .ty (tyS .tuple)) rfl (by decide) (by decide)) pa_nil rfl) he) (by decide) (by decide) he rfl).imp (to_isi rfl)
theorem f_isdict (g : Cg X N sc vm tm n) {l : Bool} (hm : X.mg "isinstance" = none) (hm2 : X.mg "dict" = none) (ha : PE X e (RE ca C ea)) (hg : sc.names.lookup ("isinstance" : Str) = some .globalImplicit := by rfl) (hg2 : sc.names.lookup ("dict" : Str) = some .globalImplicit := by rfl)
    (he : starEach [e, .Name "dict" p2] X.env = (false, eval e X.env) :: starEach [.Name "dict" p2] X.env := by rfl) : PE X (.Call (.Name "isinstance" p) [e, .Name "dict" p2] [] pos) (RE ca C (.bi l .isdict (.cons ea .nil))) :=
  (pe_callB (cr_isi (ca := ca) (t := .dict) (by decide)) (gl_of g hg) hm bt_isinstance (pa_cons ha (pa_cons (pe_bltn (gl_of g hg2) hm2 bt_dict (v := .ty (tyS .dict)) rfl (by decide) (by decide)) pa_nil rfl) he) (by decide) (by decide) he rfl).imp (to_isi rfl)
theorem m_append (g : Cg X N sc vm tm n) {l : Bool} (ho : PE X o (RE ca C eo)) (ha : PA X (e :: es) (RA ca C as)) (hbase : attributeBase o "append" X.env (eval o X.env) = eval o X.env := by rfl)
    (hfew : ((backTo cpos (starEach (e :: es) X.env)).all (fun x => !x.1) && (backToKw cpos (keywordEach [] X.env)).all (fun x => x.1.isSome)
      && decide ((e :: es).length + ([] : List Keyword).length + (if ([] : List Keyword).isEmpty then 0 else 1) < 30)) = true := by rfl)
    (hline : (apos.endLine == cpos.line) = true := by rfl) (hs : starEach (e :: es) X.env = (false, eval e X.env) :: starEach es X.env := by rfl) (hplain : (backTo cpos (starEach es X.env)).any (·.1) = false := by rfl) :
    PE X (.Call (.Attribute o "append" apos) (e :: es) [] cpos) (RE ca C (.mt l .append eo as)) := (pe_bm PySem.F.plainAttrs_list PySem.F.slot_list_append PySem.F.type_list_append (mt_append' (l := l)) ho ha hbase hfew hline hs hplain).imp (to_mt (by decide))
theorem m_extend (g : Cg X N sc vm tm n) {l : Bool} (ho : PE X o (RE ca C eo)) (ha : PA X (e :: es) (RA ca C as)) (hbase : attributeBase o "extend" X.env (eval o X.env) = eval o X.env := by rfl)
    (hfew : ((backTo cpos (starEach (e :: es) X.env)).all (fun x => !x.1) && (backToKw cpos (keywordEach [] X.env)).all (fun x => x.1.isSome)
      && decide ((e :: es).length + ([] : List Keyword).length + (if ([] : List Keyword).isEmpty then 0 else 1) < 30)) = true := by rfl)
    (hline : (apos.endLine == cpos.line) = true := by rfl) (hs : starEach (e :: es) X.env = (false, eval e X.env) :: starEach es X.env := by rfl) (hplain : (backTo cpos (starEach es X.env)).any (·.1) = false := by rfl) :
    PE X (.Call (.Attribute o "extend" apos) (e :: es) [] cpos) (RE ca C (.mt l .extend eo as)) := (pe_bm PySem.F.plainAttrs_list PySem.F.slot_list_extend PySem.F.type_list_extend (mt_extend' (l := l)) ho ha hbase hfew hline hs hplain).imp (to_mt (by decide))
theorem m_pop (g : Cg X N sc vm tm n) {l : Bool} (ho : PE X o (RE ca C eo)) (hbase : attributeBase o "pop" X.env (eval o X.env) = eval o X.env := by rfl)
    (hline : (apos.endLine == cpos.line) = true := by rfl) : PE X (.Call (.Attribute o "pop" apos) [] [] cpos) (RE ca C (.mt l .pop eo .nil)) := (pe_bm0 PySem.F.plainAttrs_list PySem.F.slot_list_pop PySem.F.type_list_pop (mt_pop' (l := l)) ho hbase hline).imp (to_mt0 (by decide))
theorem m_popAt (g : Cg X N sc vm tm n) {l : Bool} (ho : PE X o (RE ca C eo)) (ha : PA X (e :: es) (RA ca C as)) (hbase : attributeBase o "pop" X.env (eval o X.env) = eval o X.env := by rfl)
    (hfew : ((backTo cpos (starEach (e :: es) X.env)).all (fun x => !x.1) && (backToKw cpos (keywordEach [] X.env)).all (fun x => x.1.isSome)
      && decide ((e :: es).length + ([] : List Keyword).length + (if ([] : List Keyword).isEmpty then 0 else 1) < 30)) = true := by rfl)
    (hline : (apos.endLine == cpos.line) = true := by rfl) (hs : starEach (e :: es) X.env = (false, eval e X.env) :: starEach es X.env := by rfl) (hplain : (backTo cpos (starEach es X.env)).any (·.1) = false := by rfl) :
    PE X (.Call (.Attribute o "pop" apos) (e :: es) [] cpos) (RE ca C (.mt l .popAt eo as)) := (pe_bm PySem.F.plainAttrs_list PySem.F.slot_list_pop PySem.F.type_list_pop (mt_popAt' (l := l)) ho ha hbase hfew hline hs hplain).imp (to_mt (by decide))
theorem m_insert (g : Cg X N sc vm tm n) {l : Bool} (ho : PE X o (RE ca C eo)) (ha : PA X (e :: es) (RA ca C as)) (hbase : attributeBase o "insert" X.env (eval o X.env) = eval o X.env := by rfl)
    (hfew : ((backTo cpos (starEach (e :: es) X.env)).all (fun x => !x.1) && (backToKw cpos (keywordEach [] X.env)).all (fun x => x.1.isSome)
      && decide ((e :: es).length + ([] : List Keyword).length + (if ([] : List Keyword).isEmpty then 0 else 1) < 30)) = true := by rfl)
    (hline : (apos.endLine == cpos.line) = true := by rfl) (hs : starEach (e :: es) X.env = (false, eval e X.env) :: starEach es X.env := by rfl) (hplain : (backTo cpos (starEach es X.env)).any (·.1) = false := by rfl) :
    PE X (.Call (.Attribute o "insert" apos) (e :: es) [] cpos) (RE ca C (.mt l .insert eo as)) := (pe_bm PySem.F.plainAttrs_list PySem.F.slot_list_insert PySem.F.type_list_insert (mt_insert' (l := l)) ho ha hbase hfew hline hs hplain).imp (to_mt (by decide))
theorem m_reverse (g : Cg X N sc vm tm n) {l : Bool} (ho : PE X o (RE ca C eo)) (hbase : attributeBase o "reverse" X.env (eval o X.env) = eval o X.env := by rfl)
    (hline : (apos.endLine == cpos.line) = true := by rfl) : PE X (.Call (.Attribute o "reverse" apos) [] [] cpos) (RE ca C (.mt l .reverse eo .nil)) := (pe_bm0 PySem.F.plainAttrs_list PySem.F.slot_list_reverse PySem.F.type_list_reverse (mt_reverse' (l := l)) ho hbase hline).imp (to_mt0 (by decide))
theorem m_clear (g : Cg X N sc vm tm n) {l : Bool} (ho : PE X o (RE ca C eo)) (hbase : attributeBase o "clear" X.env (eval o X.env) = eval o X.env := by rfl)
    (hline : (apos.endLine == cpos.line) = true := by rfl) : PE X (.Call (.Attribute o "clear" apos) [] [] cpos) (RE ca C (.mt l .clear eo .nil)) := (pe_bm0 PySem.F.plainAttrs_list PySem.F.slot_list_clear PySem.F.type_list_clear (mt_clear' (l := l)) ho hbase hline).imp (to_mt0 (by decide))
theorem m_get1 (g : Cg X N sc vm tm n) {l : Bool} (ho : PE X o (RE ca C eo)) (ha : PA X (e :: es) (RA ca C as)) (hbase : attributeBase o "get" X.env (eval o X.env) = eval o X.env := by rfl)
    (hfew : ((backTo cpos (starEach (e :: es) X.env)).all (fun x => !x.1) && (backToKw cpos (keywordEach [] X.env)).all (fun x => x.1.isSome)
      && decide ((e :: es).length + ([] : List Keyword).length + (if ([] : List Keyword).isEmpty then 0 else 1) < 30)) = true := by rfl)
    (hline : (apos.endLine == cpos.line) = true := by rfl) (hs : starEach (e :: es) X.env = (false, eval e X.env) :: starEach es X.env := by rfl) (hplain : (backTo cpos (starEach es X.env)).any (·.1) = false := by rfl) :
    PE X (.Call (.Attribute o "get" apos) (e :: es) [] cpos) (RE ca C (.mt l .get1 eo as)) := (pe_bm PySem.F.plainAttrs_dict PySem.F.slot_dict_get PySem.F.type_dict_get (mt_get1 g.hu (l := l)) ho ha hbase hfew hline hs hplain).imp (to_mt (by decide))
theorem m_get2 (g : Cg X N sc vm tm n) {l : Bool} (ho : PE X o (RE ca C eo)) (ha : PA X (e :: es) (RA ca C as)) (hbase : attributeBase o "get" X.env (eval o X.env) = eval o X.env := by rfl)
    (hfew : ((backTo cpos (starEach (e :: es) X.env)).all (fun x => !x.1) && (backToKw cpos (keywordEach [] X.env)).all (fun x => x.1.isSome)
      && decide ((e :: es).length + ([] : List Keyword).length + (if ([] : List Keyword).isEmpty then 0 else 1) < 30)) = true := by rfl)
    (hline : (apos.endLine == cpos.line) = true := by rfl) (hs : starEach (e :: es) X.env = (false, eval e X.env) :: starEach es X.env := by rfl) (hplain : (backTo cpos (starEach es X.env)).any (·.1) = false := by rfl) :
    PE X (.Call (.Attribute o "get" apos) (e :: es) [] cpos) (RE ca C (.mt l .get2 eo as)) := (pe_bm PySem.F.plainAttrs_dict PySem.F.slot_dict_get PySem.F.type_dict_get (mt_get2 g.hu (l := l)) ho ha hbase hfew hline hs hplain).imp (to_mt (by decide))
theorem m_join (g : Cg X N sc vm tm n) {l : Bool} (ho : PE X o (RE ca C eo)) (ha : PA X (e :: es) (RA ca C as)) (hbase : attributeBase o "join" X.env (eval o X.env) = eval o X.env := by rfl)
    (hfew : ((backTo cpos (starEach (e :: es) X.env)).all (fun x => !x.1) && (backToKw cpos (keywordEach [] X.env)).all (fun x => x.1.isSome)
      && decide ((e :: es).length + ([] : List Keyword).length + (if ([] : List Keyword).isEmpty then 0 else 1) < 30)) = true := by rfl)
    (hline : (apos.endLine == cpos.line) = true := by rfl) (hs : starEach (e :: es) X.env = (false, eval e X.env) :: starEach es X.env := by rfl) (hplain : (backTo cpos (starEach es X.env)).any (·.1) = false := by rfl) :
    PE X (.Call (.Attribute o "join" apos) (e :: es) [] cpos) (RE ca C (.mt l .join eo as)) := (pe_bm PySem.F.plainAttrs_str PySem.F.slot_str_join PySem.F.type_str_join (mt_join' (l := l)) ho ha hbase hfew hline hs hplain).imp (to_mt (by decide))
theorem m_split (g : Cg X N sc vm tm n) {l : Bool} (ho : PE X o (RE ca C eo)) (ha : PA X (e :: es) (RA ca C as)) (hbase : attributeBase o "split" X.env (eval o X.env) = eval o X.env := by rfl)
    (hfew : ((backTo cpos (starEach (e :: es) X.env)).all (fun x => !x.1) && (backToKw cpos (keywordEach [] X.env)).all (fun x => x.1.isSome)
      && decide ((e :: es).length + ([] : List Keyword).length + (if ([] : List Keyword).isEmpty then 0 else 1) < 30)) = true := by rfl)
    (hline : (apos.endLine == cpos.line) = true := by rfl) (hs : starEach (e :: es) X.env = (false, eval e X.env) :: starEach es X.env := by rfl) (hplain : (backTo cpos (starEach es X.env)).any (·.1) = false := by rfl) :
    PE X (.Call (.Attribute o "split" apos) (e :: es) [] cpos) (RE ca C (.mt l .split eo as)) := (pe_bm PySem.F.plainAttrs_str PySem.F.slot_str_split PySem.F.type_str_split (mt_split' (l := l)) ho ha hbase hfew hline hs hplain).imp (to_mt (by decide))
theorem m_sindex (g : Cg X N sc vm tm n) {l : Bool} (ho : PE X o (RE ca C eo)) (ha : PA X (e :: es) (RA ca C as)) (hbase : attributeBase o "index" X.env (eval o X.env) = eval o X.env := by rfl)
    (hfew : ((backTo cpos (starEach (e :: es) X.env)).all (fun x => !x.1) && (backToKw cpos (keywordEach [] X.env)).all (fun x => x.1.isSome)
      && decide ((e :: es).length + ([] : List Keyword).length + (if ([] : List Keyword).isEmpty then 0 else 1) < 30)) = true := by rfl)
    (hline : (apos.endLine == cpos.line) = true := by rfl) (hs : starEach (e :: es) X.env = (false, eval e X.env) :: starEach es X.env := by rfl) (hplain : (backTo cpos (starEach es X.env)).any (·.1) = false := by rfl) :
    PE X (.Call (.Attribute o "index" apos) (e :: es) [] cpos) (RE ca C (.mt l .sindex eo as)) := (pe_bm PySem.F.plainAttrs_str PySem.F.slot_str_index PySem.F.type_str_index (mt_sindex' (l := l)) ho ha hbase hfew hline hs hplain).imp (to_mt (by decide))
theorem i_lst (h : PE X e (RE ca C ea)) : PI X tg e (RI ca C (.lst ea)) := pi_li h
theorem i_tup (h : PE X e (RE ca C ea)) : PI X tg e (RI ca C (.tup ea)) := pi_tu h
theorem i_str (h : PE X e (RE ca C ea)) : PI X tg e (RI ca C (.str ea)) := pi_st h
theorem i_r1 (g : Cg X N sc vm tm n) (hm : X.mg "range" = none) (ha : PE X a (RE ca C ea)) (hg : sc.names.lookup ("range" : Str) = some .globalImplicit := by rfl) (hs : starEach [a] X.env = [(false, eval a X.env)] := by rfl) : PI X tg (.Call (.Name "range" p) [a] [] pos) (RI ca C (.rng1 ea)) :=
  pi_r1 (gl_of g hg) hm (a_cons ha a_nil hs) hs
theorem i_r2 (g : Cg X N sc vm tm n) (hm : X.mg "range" = none) (ha : PE X a (RE ca C ea)) (hb : PE X b (RE ca C eb)) (hg : sc.names.lookup ("range" : Str) = some .globalImplicit := by rfl) (hs : starEach [a, b] X.env = [(false, eval a X.env), (false, eval b X.env)] := by rfl)
    (hs2 : starEach [b] X.env = [(false, eval b X.env)] := by rfl) : PI X tg (.Call (.Name "range" p) [a, b] [] pos) (RI ca C (.rng2 ea eb)) :=
  pi_r2 (gl_of g hg) hm (a_cons ha (a_cons hb a_nil hs2) (hs.trans (by rw [hs2]))) hs hs2
theorem i_en {elts : List Expr} {kk : Nat} (g : Cg X N sc vm tm n) (hm : X.mg "enumerate" = none) (ha : PE X a (RE ca C ea)) (hg : sc.names.lookup ("enumerate" : Str) = some .globalImplicit := by rfl) (hs : starEach [a] X.env = [(false, eval a X.env)] := by rfl) :
    PI X (.Tuple elts kk tpos) (.Call (.Name "enumerate" p) [a] [] pos) (RI ca C (.enumL ea)) := pi_en (gl_of g hg) hm (a_cons ha a_nil hs) hs
theorem i_rv (g : Cg X N sc vm tm n) (hm : X.mg "reversed" = none) (ha : PE X a (RE ca C ea)) (hg : sc.names.lookup ("reversed" : Str) = some .globalImplicit := by rfl) (hs : starEach [a] X.env = [(false, eval a X.env)] := by rfl) :
    PI X tg (.Call (.Name "reversed" p) [a] [] pos) (RI ca C (.revL ea)) := pi_rv (gl_of g hg) hm (a_cons ha a_nil hs) hs
theorem i_zi {elts : List Expr} {kk : Nat} (g : Cg X N sc vm tm n) (hm : X.mg "zip" = none) (ha : PE X a (RE ca C ea)) (hb : PE X b (RE ca C eb)) (hg : sc.names.lookup ("zip" : Str) = some .globalImplicit := by rfl)
    (hs : starEach [a, b] X.env = (false, eval a X.env) :: starEach [b] X.env := by rfl) (hs2 : starEach [b] X.env = [(false, eval b X.env)] := by rfl) (hpl : (backTo pos (starEach [b] X.env)).any (·.1) = false := by rfl) : PI X (.Tuple elts kk tpos) (.Call (.Name "zip" p) [a, b] [] pos) (RI ca C (.zipL ea eb)) :=
  pi_zi (gl_of g hg) hm (a_cons ha (a_cons hb a_nil hs2) hs) hs hpl
theorem g_nm (g : Cg X N sc vm tm n) (i : Nat) (hN : N[i]? = some x := by rfl) (hv : tm[i]? = some true := by rfl) : PG X (.Name x pos) (RG ca (.nm i)) :=
  have h := g.tgt i x hv hN
  pg_nm (g.hN ▸ g.nd) (g.hN ▸ hN) (g.hsc ▸ h.1) (g.hsc ▸ h.2)
theorem g_nil : PGs X [] (RGs ca .nil) := pgs_nl
theorem g_cons {q : Tg} {qs : Tgs} (h1 : PG X e (RG ca q)) (h2 : PGs X es (RGs ca qs)) (hs : (assignEach (e :: es) X.env).map (·.2) = assign e X.env :: (assignEach es X.env).map (·.2) := by rfl) : PGs X (e :: es) (RGs ca (.cons q qs)) := pgs_cn h1 h2 hs
def lenTgs : Tgs → Nat
  | .nil => 0
  | .cons _ t => lenTgs t + 1
theorem asgTs_len : ∀ (t : Tgs) (us : List U) (ρ ρ' : Rho), asgTs O T t us ρ = some ρ' → us.length = lenTgs t
  | .nil, [], _, _, _ => rfl
  | .nil, _ :: _, _, _, h => by rw [asgTs] at h <;> first | cases h | simp
  | .cons _ _, [], _, _, h => by rw [asgTs] at h <;> first | cases h | simp
  | .cons t ts, u :: us, ρ, ρ', h => by
    rw [asgTs] at h
    split at h
    · rename_i r e
      have := asgTs_len ts us r ρ' h
      simp [lenTgs, this]
    · cases h
theorem g_tp {kk : Nat} {qs : Tgs} (g : Cg X N sc vm tm n) (h : PGs X es (RGs ca qs)) (hn : (assignEach es X.env).length = lenTgs qs := by rfl) (hst : (assignEach es X.env).findIdx? (·.1) = none := by rfl) : PG X (.Tuple es kk pos) (RG ca (.tp qs)) :=
  pg_tp g.calm h hn hst fun _ _ us ρ ρ' e => asgTs_len qs us ρ ρ' e
theorem c_no : PTs X [] (RT ca C (.c (.bool true))) := pts_no
theorem c_if (h : PT X c (RT ca C ec)) : PTs X [c] (RT ca C ec) := pts_one h
def subL (a b : List Nat) : Bool := a.all fun i => b.contains i
theorem subL_ok {a b : List Nat} (h : subL a b = true) : ∀ i ∈ a, i ∈ b := by
  intro i hi
  unfold subL at h
  rw [List.all_eq_true] at h
  simpa using h i hi
theorem y_lc (g : Cg X N sc vm tm n) {l : Bool} {q : Tg} {it : IT} {ct ce : CE} {ifs : List Expr} {scope : Scope} {own : List (Str × Nat)} (sc' : Scope) (vm' tm' : List Bool) (hr : relS scope sc = sc') (hv : visAll N sc' vm' = true) (ht' : tgtBlk N scope sc' tm' = true) (ok : blkC N sc scope own = true) (hsl : subL (slotsT q) (own.map (·.2)) = true)
    (hi : PI X tg iter (RI ca C it))
    (k : ∀ Y : Cx, Y.prog = X.prog → Y.w = X.w → Y.K = X.K → Y.mg = X.mg → Y.base = X.base → Cg Y N sc' vm' tm' n → PG Y tg (RG ca q) ∧ PTs Y ifs (RT ca C ct) ∧ PE Y elt (RE ca C ce)) (hs : ∀ x, foldedSetIterable iter X.env x = pure x := by intro _; rfl) :
    PE X (.ListComp elt [⟨tg, iter, ifs, 0⟩] scope pos) (RE ca C (.comp l ce q it ct (own.map (·.2)))) := by
  have kk := fun s H A cl fp => k (X.blk s H scope (compEnvC scope cl A X.env) fp) rfl rfl rfl rfl rfl (g.blk sc' hr hv ht' s H A cl fp)
  refine (pe_lc g.calm (g.hN ▸ g.nd) hi (by rw [g.hN, g.hsc]; exact blkOk_by ok) (fun s H A cl fp => (kk s H A cl fp).1) (fun s H A cl fp => (kk s H A cl fp).2.1) (fun s H A cl fp => (kk s H A cl fp).2.2) hs).imp (to_comp (subL_ok hsl))
theorem s_lc (g : Cg X N sc vm tm n) (i : Nat) {y : Str} {py spos : Pos} {l : Bool} {q : Tg} {it : IT} {ct ce : CE} {ifs : List Expr} {scope : Scope} {own : List (Str × Nat)} (sc' : Scope) (vm' tm' : List Bool) (hr : relS scope sc = sc') (hv : visAll N sc' vm' = true) (ht' : tgtBlk N scope sc' tm' = true) (ok : blkC N sc scope own = true) (hsl : subL (slotsT q) (own.map (·.2)) = true)
    (hi : PI X tg iter (RI ca C it))
    (k : ∀ Y : Cx, Y.prog = X.prog → Y.w = X.w → Y.K = X.K → Y.mg = X.mg → Y.base = X.base → Cg Y N sc' vm' tm' n → PG Y tg (RG ca q) ∧ PTs Y ifs (RT ca C ct) ∧ PE Y elt (RE ca C ce))
    (hsw : sc.names.lookup y = some .local → swapsWith (.ListComp elt [⟨tg, iter, ifs, 0⟩] scope pos) (some (.Name y py)) spos.line X.env = pure true) (hy : N[i]? = some y := by rfl) (hyl : sc.names.lookup y = some .local := by rfl) (hs : ∀ x, foldedSetIterable iter X.env x = pure x := by intro _; rfl) :
    PS X (.Assign [.Name y py] (.ListComp elt [⟨tg, iter, ifs, 0⟩] scope pos) spos) (RS ca C (.asg (.nm i) (.comp l ce q it ct (own.map (·.2))))) := by
  have kk := fun s H A cl fp => k (X.blk s H scope (compEnvC scope cl A X.env) fp) rfl rfl rfl rfl rfl (g.blk sc' hr hv ht' s H A cl fp)
  refine (ps_setLc g.calm (g.hN ▸ g.nd) (g.hN ▸ hy) (g.hsc ▸ hyl) (hsw hyl) hi (by rw [g.hN, g.hsc]; exact blkOk_by ok) (fun s H A cl fp => (kk s H A cl fp).1) (fun s H A cl fp => (kk s H A cl fp).2.1) (fun s H A cl fp => (kk s H A cl fp).2.2) hs).imp fun D σ H => ?_
  rintro ⟨φ, G, O, ρ, T, t, h⟩
  rw [denS] at h
  refine to_comp (subL_ok hsl) σ H _ ⟨φ, G, O, ρ, T, t, Pc.imp h.of ?_⟩
  rintro v H1 ⟨φ1, G1, T1, u, f1, s1, r1, h1⟩
  simp only [asgT] at h1
  exact h1 _ φ1 G1 H1 Fut.refl (At.set ⟨s1, f1.lo t.l, t.n⟩ r1 i)
theorem b_nil : PSs X [] (RBl ca C .nil) := pss_nl
theorem b_cons {st : Stmt} {sts : List Stmt} {cs : CS} {cb : CB} (h1 : PS X st (RS ca C cs)) (h2 : PSs X sts (RBl ca C cb)) : PSs X (st :: sts) (RBl ca C (.cons cs cb)) := pss_cn h1 h2
theorem s_as {q : Tg} (he : PE X e (RE ca C ea)) (hg : PG X tg (RG ca q)) (hs : swapsWithSole [tg] e pos.line X.env = pure false := by rfl) (hw : swappedStores [tg] e X.env = pure none := by rfl) (hm : (assignEach [tg] X.env).map (·.2) = [assign tg X.env] := by rfl) : PS X (.Assign [tg] e pos) (RS ca C (.asg q ea)) := ps_as he hg hs hw hm
theorem s_ex (he : PE X e (RE ca C ea)) (hs : swapsWith e none pos.line X.env = pure false := by rfl) : PS X (.Expr e pos) (RS ca C (.ex ea)) := ps_ex he hs
theorem s_ret (he : PE X e (RE ca C ea)) : PS X (.Return (some e) pos) (RS ca C (.ret ea)) := ps_rt he
theorem s_retN : PS X (.Return none pos) (RS ca C .retN) := ps_rtN
theorem s_brk : PS X (.Break pos) (RS ca C .brk) := ps_br
theorem s_cnt : PS X (.Continue pos) (RS ca C .cnt) := ps_ct
theorem s_pass : PS X (.Pass pos) (RS ca C .pass) := ps_pa
theorem s_bad {st : Stmt} : PS X st (RS ca C .bad) := ps_bd
theorem s_if {t : Expr} {a b : List Stmt} {ct : CE} {cx cy : CB} (ht : PT X t (RT ca C ct)) (ha : PSs X a (RBl ca C cx)) (hb : PSs X b (RBl ca C cy)) : PS X (.If t a b pos) (RS ca C (.ite ct cx cy)) := ps_it ht ha hb
theorem s_wh (g : Cg X N sc vm tm n) {t : Expr} {b : List Stmt} {ct : CE} {cb : CB} {k : Nat} (ht : PT X t (RT ca C ct)) (hb : PSs X b (RBl ca C cb)) : PS X (.While t b [] pos) (RS ca C (.wh k ct cb)) := ps_wh (fun e s h => absurd h (g.never e s)) ht hb
theorem s_for (g : Cg X N sc vm tm n) {b : List Stmt} {q : Tg} {it : IT} {cb : CB} (hi : PI X tg e (RI ca C it)) (hg : PG X tg (RG ca q)) (hb : PSs X b (RBl ca C cb)) (hs : ∀ x, foldedSetIterable e X.env x = pure x := by intro _; rfl) : PS X (.For tg e b [] pos) (RS ca C (.for_ q it cb)) :=
  ps_fo (fun e s h => absurd h (g.never e s)) g.calm hi hg hb hs
theorem s_setf {c : Nat} (F : Cls X.K (ca c) ∧ NoAttr X.K (ca c) f) (ho : PE X o (RE ca C eo)) (he : PE X e (RE ca C ea)) (hs : swapsWith e (some (.Attribute o f pos')) pos.line X.env = pure false := by rfl) : PS X (.Assign [.Attribute o f pos'] e pos) (RS ca C (.setf c eo f ea)) :=
  (ps_fld ho he hs).imp (to_setf F.1 F.2)
theorem s_seti (g : Cg X N sc vm tm n) (he : PE X e (RE ca C ea)) (ho : PE X o (RE ca C eo)) (hi : PE X i (RE ca C ec)) (hs : swapsWithSole [.Subscript o i pos'] e pos.line X.env = pure false := by rfl) (hw : swappedStores [.Subscript o i pos'] e X.env = pure none := by rfl) (hm : (assignEach [.Subscript o i pos'] X.env).map (·.2) = [assign (.Subscript o i pos') X.env] := by rfl)
    (hpg : PSet X (rSet3 ca) → PG X (.Subscript o i pos') (gSub (RE ca C eo) (RE ca C ec) (rSet3 ca))) : PS X (.Assign [.Subscript o i pos'] e pos) (RS ca C (.seti eo ec ea)) :=
  (ps_asg he (hpg (set_any g.hu)) hs hw hm).imp to_seti
end
end Y

set_option Elab.async false
set_option linter.all false
set_option maxRecDepth 100000
set_option maxHeartbeats 1000000
namespace Y
open PySem PySem.Spec PyProof.Rows L2
abbrev cn (G : Pg) (n : Nat) : Cn := ⟨run G n, run G n, G.glob⟩
theorem run_len {G : Pg} {j np ns : Nat} {b : CB} (hG : G.defs j = some ⟨np, ns, b⟩) (n : Nat) (O : Cs) (us : List U) (T : Cs) (h : us.length ≠ np) : run G n O j us T = .fail := by
  cases n with
  | zero => rfl
  | succ n =>
    rw [run, hG]
    exact if_neg h
section
variable {P : Program} {w : World} {K : PySem.W.Frag} {mg : Str → Option Value} {base : Heap} {ca : Nat → Addr} {φ : List Addr} {Gh : Hp}
theorem start_lo : ∀ {vs : List V} {us : List U} (k : Nat), RpUs Gh φ vs us → Lo Gh φ (vs.map some ++ List.replicate k none) (us.map some ++ List.replicate k none) := by
  intro vs us k r i u h
  have hl := r.length
  by_cases hi : i < us.length
  · rw [List.getElem?_append_left (by simpa using hi), List.getElem?_map] at h
    simp only [Option.map_eq_some_iff, Option.some.injEq, exists_eq_right] at h
    obtain ⟨v, h1, h2⟩ := r.get h
    refine ⟨v, ?_, h2⟩
    rw [List.getElem?_append_left (by simp; omega), List.getElem?_map, h1]
    rfl
  · rw [List.getElem?_append_right (by simp; omega), List.getElem?_replicate] at h
    split at h <;> cases h
/-- a def keeps its promise -/
theorem def_ok {x qual : Str} {st : Stmt} {f : Addr} {fd : FuncData} {N ps : List Str} {sc : Scope} {vm : List Bool} {G : Pg} {j np ns n : Nat} {b : CB} (F : Fun K x qual st f fd) (hsc : defScope st = sc) (S : FnScope N ps sc) (hG : G.defs j = some ⟨np, ns, b⟩) (hps : ps.length = np) (hns : N.length = ns)
    (hn : decide N.Nodup = true) (hv : visAll N sc vm = true) (ht : tgtAll N sc vm = true)
    (hb : ∀ X : Cx, X.prog = P → X.w = w → X.K = K → X.mg = mg → X.base = base → Cg X N sc vm vm (2 * n + 1) → PSs X (defBody st) (RBl ca (cn G n) b)) : FnOk P w K mg base CX0 (2 * n + 2) f fd ps (spR ca (run G (n + 1)) j np) := by
  subst hsc
  refine F.ok S (fun vs H Q E h => ?_) (fun cdv A outer s H vs Q E hr h => ⟨_, hb _ rfl rfl rfl rfl rfl (Cg.ofDef hn hv ht hr), ?_⟩)
  · obtain ⟨φ, G0, O, T, us, hl, s, r, q⟩ := h
    rw [r.length, hl, hps]
  · obtain ⟨φ, G0, O, T, us, hl, s, r, q⟩ := h
    rw [run, hG] at q
    have q : Pc ca rU φ G0 O (if us.length = np then match denB (cn G n) O b (us.map some ++ List.replicate (ns - us.length) none) T with
    | .nx _ T' => .ok (.d .none) T'
    | .rt u T' => .ok u T'
    | .exc c fs _ T' => .exc c fs T'
    | _ => .fail else .fail) Q := q
    rw [if_pos hl] at q
    refine ⟨φ, G0, O, us.map some ++ List.replicate (ns - us.length) none, T, ⟨s, ?_, ?_⟩, ?_⟩
    · show Lo G0 φ (vs.map some ++ List.replicate (N.length - vs.length) none) _
      rw [hns, r.length]
      exact start_lo _ r
    · show (vs.map some ++ List.replicate (N.length - vs.length) none).length = _
      simp [hns, r.length]
    · cases e : denB (cn G n) O b (us.map some ++ List.replicate (ns - us.length) none) T with
      | nx ρ T' =>
        rw [e] at q
        exact fun σ φ' G' H' f t => q .non φ' G' H' f t.s (.d .non)
      | rt u T' =>
        rw [e] at q
        exact fun v φ' G' H' f s r => q v φ' G' H' f s r
      | bk ρ T' => rw [e] at q; exact q.elim
      | ct ρ T' => rw [e] at q; exact q.elim
      | exc => rw [e] at q; exact q.elim
      | fail => rw [e] at q; exact q.elim
/-- at level 0 nothing is promised -/
theorem def_0 {f : Addr} {fd : FuncData} {ps : List Str} {G : Pg} {j np : Nat} : FnOk P w K mg base CX0 0 f fd ps (spR ca (run G 0) j np) where
  len := by
    rintro vs H Q E ⟨φ, G0, O, T, us, hl, s, r, q⟩
    exact q.elim
  run := by
    rintro A outer s H args us vs Q E hr e0 hb hv ⟨φ, G0, O, T, us, hl, s, r, q⟩
    exact q.elim
end
/-- no list among what the top has written -/
def NoL (K : PySem.W.Frag) : Prop := ∀ (a : Addr) (o : Obj), K.lookup a = some o → o.cls ≠ .type "list"
/-- the law's promise -/
theorem law_imp {P : Program} {w : World} {K : PySem.W.Frag} {mg : Str → Option Value} {base : Heap} {ca : Nat → Addr} {k j : Nat} {f : Addr} {fd : FuncData} {ps : List Str} {call : Cs → Nat → List U → Cs → R U} (F : FnOk P w K mg base CX0 k f fd ps (spR ca call j 1)) (nl : NoL K)
    (h : ∀ ns : List Int, ns.length ≤ 63 → ∃ T, call [] j [.d (.list (ns.map .int))] [] = .ok (.d (.bool true)) T) : FnOk P w K mg base CX0 k f fd ps (fun vs H Q _ => ∃ (a : Addr) (ns : List Int), vs = [.ref a] ∧ SqL K H a (ns.map V.int) ∧ ns.length ≤ 63 ∧ ∀ H', Q (.bl true) H') :=
  F.imp fun vs H Q E => by
    rintro ⟨a, ns, rfl, hS, hl, q⟩
    have hR : Rd H a (.lst (ns.map V.int)) := by
      rcases hS with hS | ⟨o, its, n, h1, h2, _⟩
      · exact hS
      · exact absurd h2 (nl a o h1)
    have hr : Rps H (ns.map V.int) (ns.map PyData.int) := by
      clear hR hS hl
      induction ns with
      | nil => exact .nil
      | cons n ns ih => exact .cons (.int n) ih
    obtain ⟨T, e⟩ := h ns hl
    refine ⟨[], H, [], [], [.d (.list (ns.map .int))], rfl, ⟨rfl, List.nodup_nil, Ex.refl H, fun i a c h => by simp at h, fun i a h => by simp at h, fun i a c h => by simp at h⟩, .cons (.d (.lst hR hr)) .nil, ?_⟩
    rw [e]
    intro v φ' G' H' f s r
    cases r with
    | d r => cases r; exact q H'
/-- the law's promise, the script's bits told -/
theorem law_impB {P : Program} {w : World} {K : PySem.W.Frag} {mg : Str → Option Value} {base : Heap} {ca : Nat → Addr} {k j : Nat} {f : Addr} {fd : FuncData} {ps : List Str} {call : Cs → Nat → List U → Cs → R U} (F : FnOk P w K mg base CX0 k f fd ps (spR ca call j 1)) (nl : NoL K)
    (h : ∀ ns : List Int, ns.length ≤ 63 → (∀ z ∈ ns, Builtin.Int.intBits z ≤ 1048576) → ∃ T, call [] j [.d (.list (ns.map .int))] [] = .ok (.d (.bool true)) T) : FnOk P w K mg base CX0 k f fd ps (fun vs H Q _ => ∃ (a : Addr) (ns : List Int), vs = [.ref a] ∧ SqL K H a (ns.map V.int) ∧ ns.length ≤ 63 ∧ (∀ z ∈ ns, Builtin.Int.intBits z ≤ 1048576) ∧ ∀ H', Q (.bl true) H') :=
  F.imp fun vs H Q E => by
    rintro ⟨a, ns, rfl, hS, hl, hbits, q⟩
    have hR : Rd H a (.lst (ns.map V.int)) := by
      rcases hS with hS | ⟨o, its, n, h1, h2, _⟩
      · exact hS
      · exact absurd h2 (nl a o h1)
    have hr : Rps H (ns.map V.int) (ns.map PyData.int) := by
      clear hR hS hl hbits
      induction ns with
      | nil => exact .nil
      | cons n ns ih => exact .cons (.int n) ih
    obtain ⟨T, e⟩ := h ns hl hbits
    refine ⟨[], H, [], [], [.d (.list (ns.map .int))], rfl, ⟨rfl, List.nodup_nil, Ex.refl H, fun i a c h => by simp at h, fun i a h => by simp at h, fun i a c h => by simp at h⟩, .cons (.d (.lst hR hr)) .nil, ?_⟩
    rw [e]
    intro v φ' G' H' f s r
    cases r with
    | d r => cases r; exact q H'
end Y

set_option Elab.async false
set_option linter.all false
set_option maxRecDepth 100000
set_option maxHeartbeats 1000000
namespace Y
open PySem PySem.Spec PyProof.Rows L2
set_option maxHeartbeats 2000000 in
theorem enum_newT (t : Addr) (items : Array Value) :
    Meets (Builtin.«enumerate.__new__» ⟨[.type "enumerate", .ref t], []⟩) (fun _ R s => s.heap.IsTuple t items ∧
      R (.ok (.ret (.ref (s.heap.push { cls := .type "tuple_iterator", data := .fields #[.ref t, .int 0 0] }).objs.size)))
        { s with heap := (s.heap.push { cls := .type "tuple_iterator", data := .fields #[.ref t, .int 0 0] }).push { cls := .type "enumerate", data := .fields #[.none, .bool false, .ref s.heap.objs.size, rawInt 0, .none, .none] } }) :=
  .of_wp fun prog w A R s h => by
    obtain ⟨hp, g, d, tk, os⟩ := s; obtain ⟨h1, h⟩ := h
    have hsub := sub_enumerate
    have q1 : ∀ {A' : Around} {E : Value → Shared → Prop} {Q : Value → Shared → Prop}, Q (.ref hp.objs.size) ⟨hp.push { cls := .type "tuple_iterator", data := .fields #[.ref t, .int 0 0] }, g, d, tk, os⟩ → wpAny (model prog w) A' (pyIter (.ref t)) Q E ⟨hp, g, d, tk, os⟩ :=
      fun q => (begins_tuple t items).iter prog w _ _ ⟨hp, g, d, tk, os⟩ _ h1 q
    wp_walk using q1
    refine wpAny_stack_any fun st => wpAny_pure ?_
    split
    · rename_i c _ _ _ _ _
      cases (c == Value.type "enumerate")
      · wp_walk using q1
        exact ⟨_, rfl, h⟩
      · wp_walk using q1
        exact ⟨_, rfl, h⟩
    · wp_walk using q1
      exact ⟨_, rfl, h⟩
section
variable {prog : Program} {w : World} {A : Around} {E : Value → Shared → Prop} {s : Shared}
theorem call_enumT {l : Addr} {items : Array Value} {Q : Value → Shared → Prop} (hL : s.heap.IsTuple l items)
    (h : ∀ h', IsEnum h' (s.heap.objs.size + 1) s.heap.objs.size 0 .none → h'.IsTupleIter s.heap.objs.size l 0 → h'.objs.size = s.heap.objs.size + 2 →
      (∀ b o, s.heap.get? b = some o → h'.get? b = some o) → Q (.ref (s.heap.objs.size + 1)) { s with heap := h' }) :
    wpAny (model prog w) A (call (.type "enumerate") [.ref l]) Q E s := by
  refine callType_new F.called_enumerate (by decide) (F.typeCall_enumerate_1 _) (F.newCall_enumerate_1 _) (fun obj => F.args_object_init_2 obj _) F.entry_enumerate_new
    (enum_newT l items) ⟨hL, ?_⟩
  have hz : (s.heap.push { cls := .type "tuple_iterator", data := .fields #[.ref l, .int 0 0] }).objs.size = s.heap.objs.size + 1 := Heap.size_push ..
  show _ ∧ _
  rw [hz]
  have he : IsEnum ((s.heap.push { cls := .type "tuple_iterator", data := .fields #[.ref l, .int 0 0] }).push
      { cls := .type "enumerate", data := .fields #[.none, .bool false, .ref s.heap.objs.size, rawInt 0, .none, .none] }) (s.heap.objs.size + 1) s.heap.objs.size 0 .none := by
    have := Heap.get?_push_size (s.heap.push { cls := .type "tuple_iterator", data := .fields #[.ref l, .int 0 0] })
      (o := { cls := .type "enumerate", data := .fields #[.none, .bool false, .ref s.heap.objs.size, rawInt 0, .none, .none] }) rfl
    rw [hz] at this; exact this
  refine ⟨⟨_, he, rfl⟩, h _ he ⟨_, Heap.get?_push_of_some _ (Heap.get?_push_size _ rfl), rfl, rfl⟩ (by rw [Heap.size_push, hz]) fun b o x => Heap.get?_push_of_some _ (Heap.get?_push_of_some _ x)⟩
end
section
variable {prog : Program} {w : World} {A : Around} {E : Value → Shared → Prop} {s : Shared}
theorem enumT_end {e it l : Addr} {i : Nat} {c : Int} {items : Array Value} {old : Value} {Q : Option Value → Shared → Prop} (hh : A.handled = none)
    (he : IsEnum s.heap e it c old) (hit : s.heap.IsTupleIter it l i) (hl : s.heap.IsTuple l items) (hx : items[i]? = none)
    (hQ : ∀ h', Heap.ExtBut it s.heap h' → Q none { s with heap := h' }) : wpAny (model prog w) A (pyNext (.ref e)) Q E s := by
  have hT : s.TypeIs (.ref e) "enumerate" := ⟨_, he, rfl⟩
  unfold pyNext
  refine wpAny_bind (wpAny_attempt (wpAny_callSpecial?_slot (name := Str.ofString "__next__") hT F.slot_enumerate_next
    (wpAny_call_entry F.slot_enumerate_next hT F.entry_enumerate_next ?_ (F.args_enumerate_next_1 _))))
  show wpAny _ _ (field (.ref e) 2 >>= _) _ _ _
  refine wpAny_bind (wpAny_field he rfl (x := .ref it) rfl ?_)
  refine wpAny_bind (wpAny_nextOf_tuple_end hh hit hl hx fun h' x he' hx' => ?_)
  obtain ⟨o, ho, hc⟩ := hx'
  refine wpAny_bind (wpAny_isInstance (T := "StopIteration") (b := true) ⟨o, ho, hc⟩ isSubtype_stop ?_)
  exact wpAny_pure (hQ _ he')
end
/-- the tuple at a, each item in a new pair -/
def IteT (K : PySem.W.Frag) (a : Addr) : It :=
  ⟨fun i H => ∃ (xs : List V) (x : V), SqT K H a xs ∧ xs[i]? = some x, fun i H v H' => ∃ T x, v = .ref T ∧ H T = none ∧ H' = upd H T (.tup [.int (i : Nat), x]) ∧ ∀ xs, SqT K H a xs → xs[i]? = some x, fun i H => ∃ xs : List V, SqT K H a xs ∧ xs.length ≤ i⟩
theorem turn_enumT {P : Program} {w : World} {K : PySem.W.Frag} {elts : List Expr} {kk : Nat} {tpos : Pos} (a e it : Addr) :
    Turn P w K (.Tuple elts kk tpos) (IteT K a) [e, it] e (fun i h => (∃ old, IsEnum h e it ((i : Nat) : Int) old) ∧ h.IsTupleIter it a i ∧ e ≠ it) where
  mem := by simp
  obj := fun i h st b hb => by
    obtain ⟨⟨old, he⟩, ⟨o, ho, hc, hd⟩, _⟩ := st
    have e' : b = e ∨ b = it := by simpa using hb
    rcases e' with z | z
    · rw [z]; exact ⟨_, he, fun v q => nomatch q⟩
    · rw [z]; exact ⟨o, ho, fun v q => by rw [hd] at q; cases q⟩
  keep := fun i h h' st k => let ⟨⟨old, he⟩, hi, hne⟩ := st; ⟨⟨old, k e (by simp) _ he⟩, hi.at fun o q => k it (by simp) o q, hne⟩
  item := by
    intro X hP hw hK hc i pins s σ H E I hf st hg
    subst hP hw hK
    obtain ⟨⟨old, he⟩, hit, hne⟩ := st
    obtain ⟨xs, x, hq, hx⟩ := hg
    obtain ⟨its, rv, p, hz⟩ := I.tuple hq
    obtain ⟨u, hu, ru⟩ := rv.get hx
    have hel : e < s.heap.objs.size := Heap.lt_size he
    have hil : it < s.heap.objs.size := by obtain ⟨_, q, _⟩ := hit; exact Heap.lt_size q
    have hlt : i < its.length := by
      have := (List.getElem?_eq_some_iff.mp hu).1
      exact this
    have hat : a ≠ it := by
      rintro rfl
      obtain ⟨o1, g1, c1, _⟩ := hit
      obtain ⟨o2, g2, c2, _⟩ := p
      rw [g1] at g2; cases g2
      rw [c1] at c2
      injection c2 with q
      exact absurd q (by decide)
    have hae : a ≠ e := by
      rintro rfl
      obtain ⟨o2, g2, c2, _⟩ := p
      have he' : s.heap.get? a = _ := he
      rw [he'] at g2; cases g2
      have c2 : Value.type "enumerate" = .type "tuple" := c2
      injection c2 with q
      exact absurd q (by decide)
    refine wpAny_pyNext_enum_itemD (n := its.toArray.size) (Draws.tuple (A := X.A.in1) (show X.A.in1.handled = none from I.ok.hd hc) it a hat its.toArray) he ⟨hit, p⟩ (by simpa using hlt) hne (by simp [hne, hae.symm]) fun y h' tk hP ho hst hT hsz hk => ?_
    obtain rfl : y = u := by
      have : its.toArray[i]? = some y := hP
      rw [List.getElem?_toArray, hu] at this
      cases this; rfl
    refine ⟨_, rfl, wpAny_letOwnedTupleGo_enum (s := { s with heap := h', toks := tk + 1 }) ho fun h'' he' sb => ?_⟩
    have hT2 : h''.get? s.heap.objs.size = some { cls := .type "tuple", data := .seq #[.int i tk, y] } := (sb.2 _ (Nat.ne_of_gt hel)).trans hT
    have new : ObjOk X.prog X.w (upd H s.heap.objs.size (.tup [.int (i : Nat), x])) h'' s.heap.objs.size (.tup [.int (i : Nat), x]) :=
      ⟨by show 2 ≤ sizeLine; decide, [.int i tk, y], .cons ⟨_, rfl⟩ (.cons ru .nil), ⟨_, hT2, rfl, _, rfl⟩⟩
    have I1 : Inv X pins σ (upd H s.heap.objs.size (.tup [.int (i : Nat), x])) { s with heap := h'', toks := tk + 1 } :=
      I.turnedNew (ch := [e, it]) (fun b ob hb q => (sb.2 b (fun z => hb (by simp [z]))).trans (hk b ob (fun z => hb (by simp [z])) (fun z => hb (by simp [z])) q)) hf (Nat.le_refl _) new
    refine ⟨.ref s.heap.objs.size, _, I1, rfl, ⟨_, x, rfl, I.hok.fresh (Nat.le_refl _), rfl, fun ys hy => by rw [I.tuple_inj hy hq]; exact hx⟩, ⟨⟨y, ?_⟩, hst.1.at fun o q => (sb.2 it (Ne.symm hne)).trans q, hne⟩, fun b hb => ?_⟩
    · have e1 : ((i + 1 : Nat) : Int) = (i : Int) + 1 := by omega
      rw [e1]; exact he'
    · have hb' : b < s.heap.objs.size := by
        have e' : b = e ∨ b = it := by simpa using hb
        rcases e' with z | z
        · rw [z]; exact hel
        · rw [z]; exact hil
      rw [upd_ne (Nat.ne_of_lt hb')]
      exact (hf b hb).1
  done := by
    intro X hP hw hK hc i pins s σ H E I hf st hg
    subst hP hw hK
    obtain ⟨⟨old, he⟩, hit, hne⟩ := st
    obtain ⟨xs, hq, hx⟩ := hg
    obtain ⟨its, rv, p, hz⟩ := I.tuple hq
    obtain ⟨f0, f1, f2, f3, f4, f5⟩ := hf it (by simp)
    have hl := rv.length
    have hat : a ≠ it := by
      rintro rfl
      obtain ⟨o1, g1, c1, _⟩ := hit
      obtain ⟨o2, g2, c2, _⟩ := p
      rw [g1] at g2; cases g2
      rw [c1] at c2
      injection c2 with q
      exact absurd q (by decide)
    -- the iterator stands at its end
    exact enumT_end (I.ok.hd hc) he hit p (by simp; omega) fun h' eb => ⟨rfl, I.turned (t' := s.toks) (fun b o hb q => eb b o hb q) f0 f1 f3 f4 f5⟩
  self := fun A i s Q E st h => let ⟨⟨_, he⟩, _⟩ := st; wpAny_pyIter_enum he h
def nolB (K : PySem.W.Frag) : Bool := K.all fun p => match p.2.cls with | .type t => !(t == "list") | _ => true
theorem nol_of {K : PySem.W.Frag} (h : nolB K = true) : NoL K := by
  intro a o e q
  have hm : (a, o) ∈ K := by
    clear h
    induction K with
    | nil => simp at e
    | cons p K ih =>
      obtain ⟨b, o'⟩ := p
      rw [List.lookup_cons] at e
      cases hb : a == b with
      | true =>
        rw [hb] at e
        have hb := eq_of_beq hb
        cases e
        subst hb
        exact List.mem_cons_self
      | false =>
        rw [hb] at e
        exact List.mem_cons_of_mem _ (ih e)
  unfold nolB at h
  rw [List.all_eq_true] at h
  have := h _ hm
  simp only [q] at this
  simp at this
def iEnumT (K : PySem.W.Frag) (ta : TA) : TI := fun σ H R => ta σ H fun vs H1 => ∃ a xs, vs = [.ref a] ∧ SqT K H1 a xs ∧ R (IteT K a) H1
theorem pi_enumT {X : Cx} {e : Expr} {ta : TA} {p pos tpos : Pos} {elts : List Expr} {kk : Nat} (hg : Gl X "enumerate") (hm : X.mg "enumerate" = none) (ha : PA X [e] ta) (hs : starEach [e] X.env = [(false, eval e X.env)] := by rfl) :
    PI X (.Tuple elts kk tpos) (.Call (.Name "enumerate" p) [e] [] pos) (iEnumT X.K ta) := by
  refine ⟨fun pins s σ H R I h => ?_⟩
  refine Call_ (ld_blt I hg hm boot_enumerate (PyProof.Rows.callWith_type1 (thn (ha.run pos pins s σ H _ I h) fun us s1 ⟨vs, H1, I1, r1, q1⟩ => ?_) hs rfl))
  obtain ⟨a, xs, ex, hq, q⟩ := q1
  subst ex
  cases r1 with
  | cons r rr =>
    cases rr
    cases r
    obtain ⟨its, rv, p', hz⟩ := I1.tuple hq
    refine call_enumT p' fun h' he hit hsz hk => wpAny_pyIter_enum he ?_
    have I2 : Inv X pins σ H1 { s1 with heap := h' } := I1.kept (t' := s1.toks) hk
    refine ⟨s1.heap.objs.size + 1, [s1.heap.objs.size + 1, s1.heap.objs.size], _, _, H1, rfl, I2, turn_enumT a (s1.heap.objs.size + 1) s1.heap.objs.size, ⟨⟨.none, he⟩, hit, Nat.succ_ne_self _⟩, fun b hb => ?_, q⟩
    have e' : b = s1.heap.objs.size + 1 ∨ b = s1.heap.objs.size := by simpa using hb
    have hle : s1.heap.objs.size ≤ b := by
      rcases e' with z | z
      · rw [z]; exact Nat.le_add_right _ _
      · rw [z]; exact Nat.le_refl _
    exact I1.fpOk hle (I1.hok.fresh hle)
section
variable {ca : Nat → Addr} {O T : Cs} {X : Cx} {K : PySem.W.Frag} {C : Cn} {pos p apos cpos tpos pos' p2 : Pos} {a b c e tg o i iter elt st : Expr} {ea eb ec eo : CE} {as : CA} {es rest : List Expr} {N : List Str} {sc sc' : Scope} {vm tm vm' tm' : List Bool} {n j np : Nat} {x m f : Str} {φ0 : List Addr} {G0 : Hp}
theorem iteT_ok {x : U} {us : List U} {T0 : Cs} {a : Addr} (r : RpU G0 φ0 (.ref a) x) (e : seqT x = some us) : JOk ca (IteT K a) ⟨us.zipIdx.map fun p => mkT [.d (.int (p.2 : Nat)), p.1], none, T0⟩ φ0 G0 O := by
  intro φ G H' T' f s hw
  obtain ⟨a', vs, ea, h1, h2⟩ := seqT_ok s (f.u r) e
  cases ea
  have h1 : SqT K H' a vs := .inl (.inl h1)
  refine ⟨fun i u hu => ?_, ⟨vs, h1, by simp [h2.length]⟩⟩
  simp only [List.getElem?_map, List.getElem?_zipIdx, Option.map_map, Option.map_eq_some_iff] at hu
  obtain ⟨w, hw', rfl⟩ := hu
  obtain ⟨v', e1, e2⟩ := h2.get hw'
  refine ⟨⟨vs, v', h1, e1⟩, fun x' H2 hy => ?_⟩
  obtain ⟨Tt, x2, rfl, nT, rfl, hy⟩ := hy
  have := hy vs h1
  rw [e1] at this
  cases this
  simp only [Function.comp, Nat.zero_add]
  exact new_tup s nT (.cons (.d (.int _)) (.cons e2 .nil))
theorem i_et {elts : List Expr} {kk : Nat} (g : Cg X N sc vm tm n) (hm : X.mg "enumerate" = none) (ha : PE X a (RE ca C ea)) (hg : sc.names.lookup ("enumerate" : Str) = some .globalImplicit := by rfl) (hs : starEach [a] X.env = [(false, eval a X.env)] := by rfl) :
    PI X (.Tuple elts kk tpos) (.Call (.Name "enumerate" p) [a] [] pos) (RI ca C (.enumT ea)) :=
  (pi_enumT (gl_of g hg) hm (a_cons ha a_nil hs) hs).imp (by
    intro σ H R h
    obtain ⟨φ, G, O, ρ, T, t, h⟩ := ri_one (ea := ea) (f := fun O x T => match seqT x with | some us => .ok ⟨us.zipIdx.map fun p => mkT [.d (.int (p.2 : Nat)), p.1], none, T⟩ T | none => .fail) (fun O ρ T => by rw [denI] <;> rfl) h
    refine ⟨φ, G, O, ρ, T, t, Pc.imp h ?_⟩
    rintro vs H1 ⟨φ1, G1, T1, v, u, rfl, s, r, h⟩
    cases e2 : seqT u with
    | none => rw [e2] at h; exact h.elim
    | some us =>
      rw [e2] at h
      obtain ⟨a, ys, rfl, hy, ry⟩ := seqT_ok s r e2
      exact ⟨a, ys, rfl, .inl (.inl hy), h _ φ1 G1 H1 Fut.refl s (iteT_ok r e2)⟩)
theorem s_lcA (g : Cg X N sc vm tm n) (i : Nat) {y : Str} {py spos : Pos} {l : Bool} {q : Tg} {it : IT} {ct ce : CE} {ifs : List Expr} {scope : Scope} {own : List (Str × Nat)} (sc' : Scope) (vm' tm' : List Bool) (hr : relS scope sc = sc') (hv : visAll N sc' vm' = true) (ht' : tgtBlk N scope sc' tm' = true) (ok : blkC N sc scope own = true) (hsl : subL (slotsT q) (own.map (·.2)) = true)
    (hi : PI X tg iter (RI ca C it))
    (k : ∀ Y : Cx, Y.prog = X.prog → Y.w = X.w → Y.K = X.K → Y.mg = X.mg → Y.base = X.base → Cg Y N sc' vm' tm' n → PG Y tg (RG ca q) ∧ PTs Y ifs (RT ca C ct) ∧ PE Y elt (RE ca C ce))
    (hk : sc.kind = .function := by rfl) (hl : (py.line == pos.line) = true := by rfl) (ha : (scope.names.any fun (n, k) => n == y && (k == .local || k == .cell)) = false := by decide +kernel) (hy : N[i]? = some y := by rfl) (hyl : sc.names.lookup y = some .local := by rfl) (hs : ∀ x, foldedSetIterable iter X.env x = pure x := by intro _; rfl) :
    PS X (.Assign [.Name y py] (.ListComp elt [⟨tg, iter, ifs, 0⟩] scope pos) spos) (RS ca C (.asg (.nm i) (.comp l ce q it ct (own.map (·.2))))) :=
  s_lc g i sc' vm' tm' hr hv ht' ok hsl hi k (fun e => sw_true (g.hsc ▸ hk) (g.hsc ▸ e) hl ha) hy hyl hs
theorem sw_cell {elt : Expr} {gs : List Comprehension} {scope : Scope} {pos py : Pos} {y : Str} {l : Nat} {env : Env} (hy : env.scope.names.lookup y = some .cell) : swapsWithSole [.Name y py] (.ListComp elt gs scope pos) l env = pure false := by
  have ky : env.kindOf y = some .cell := hy
  show swapsWith (.ListComp elt gs scope pos) (some (.Name y py)) l env = pure false
  unfold swapsWith
  have h1 : ((some NameKind.cell : Option NameKind) == some NameKind.local) = false := rfl
  simp only [ky, h1, Bool.and_false, Bool.false_and]
theorem s_asC {q : Tg} {elt : Expr} {gs : List Comprehension} {scope : Scope} {lpos py : Pos} {y : Str} {ea : CE} (g : Cg X N sc vm tm n) (he : PE X (.ListComp elt gs scope lpos) (RE ca C ea)) (hg : PG X (.Name y py) (RG ca q)) (hy : sc.names.lookup y = some .cell := by rfl) : PS X (.Assign [.Name y py] (.ListComp elt gs scope lpos) pos) (RS ca C (.asg q ea)) :=
  ps_as he hg (sw_cell (g.hsc ▸ hy)) rfl rfl
theorem s_augf {c : Nat} (F : Cls X.K (ca c) ∧ NoAttr X.K (ca c) f) (ho : PE X o (RE ca C eo)) (he : PE X e (RE ca C ea)) : PS X (.AugAssign (.Attribute o f pos') .Add e pos) (RS ca C (.augf c eo f ea)) :=
  (ps_fldaug ho he in_add).imp (to_augf F.1 F.2)
theorem rps_strs (Gh : Hp) : ∀ ts : List Str, Rps Gh (ts.map V.str) (ts.map PyData.str)
  | [] => .nil
  | a :: r => .cons (.str a) (rps_strs Gh r)
/-- x in a tuple of texts of the module -/
def rInG (ca : Nat → Addr) (A : Addr) (ds : List Y.D) : R2 := fun x y H Q => y = .ref A ∧ ∃ φ G O T u, Sd ca φ G H (O ++ T) ∧ RpU G φ x u ∧ Pc ca rU φ G O (cmpR .isin O u (.d (.tuple ds)) T) Q
theorem op_inG {A : Addr} {o : Obj} {its : Array Value} {k : Nat} {ts : List Str} (h2 : X.K.lookup A = some o) (h3 : o.cls = .type "tuple") (h4 : o.data = .seq its k) (h5 : its.size ≤ sizeLine) (h6 : Vals (ts.map V.str) its.toList) : OpR X (compareOp .In) (rInG ca A (ts.map .str)) := by
  rintro pins s σ H x y v w Q I rx ry ⟨rfl, φ, G, O, T, u, sd, r1, h⟩
  unfold cmpR at h
  cases e : cmpU O .isin u (.d (.tuple (ts.map .str))) T with
  | none => rw [e] at h; exact h.elim
  | some kk =>
    rw [e] at h
    have q : Q (.bl kk) H := Pc.now h sd (.d (.bl _))
    have e : cmpU.isinU O u (.d (.tuple (ts.map .str))) T = some kk := e
    cases u with
    | d a =>
      have e : (if cmpU.flat a && (ts.map PyData.str).all cmpU.flat then some ((ts.map PyData.str).any fun z => PyData.eqv z a) else none) = some kk := by
        rw [← e]
        cases a <;> rfl
      split at e
      · rename_i hs
        cases e
        simp only [Bool.and_eq_true] at hs
        cases r1 with
        | d r1 =>
          obtain ⟨b1, b2⟩ := flat_any r1 hs.1 (rps_strs G ts) hs.2
          exact op_in_seq pins s σ H _ _ v w Q I rx ry ⟨_, _, rfl, .inr (.inr ⟨o, its, k, h2, h3, h4, h5, h6⟩), flat_ok r1 hs.1, b1, by rw [b2]; exact q⟩
      · cases e
    | ref i =>
      have z : cmpU.isinU O (.ref i) (.d (.tuple (ts.map .str))) T = none := by
        unfold cmpU.isinU
        show (match toD O T 3 (.ref i), some (PyData.tuple (ts.map .str)) with
          | some a, some (.list ds) => if shp a && shp (.list ds) then some (ds.any fun z => PyData.eqv z a) else none
          | _, _ => none : Option Bool) = none
        cases toD O T 3 (.ref i) <;> rfl
      rw [z] at e; cases e
    | tup i =>
      have z : cmpU.isinU O (.tup i) (.d (.tuple (ts.map .str))) T = none := by
        unfold cmpU.isinU
        show (match toD O T 3 (.tup i), some (PyData.tuple (ts.map .str)) with
          | some a, some (.list ds) => if shp a && shp (.list ds) then some (ds.any fun z => PyData.eqv z a) else none
          | _, _ => none : Option Bool) = none
        cases toD O T 3 (.tup i) <;> rfl
      rw [z] at e; cases e
theorem to_inG {A : Addr} {ds : List Y.D} : ∀ σ H Q, RE ca C (.cmp .isin ea (.c (.tuple ds))) σ H Q → tOp (rInG ca A ds) (RE ca C ea) (tC (.ref A)) σ H Q := by
  rintro σ H Q ⟨φ, G, O, ρ, T, t, h⟩
  rw [den] at h
  refine ⟨φ, G, O, ρ, T, t, Pc.imp h.bind ?_⟩
  rintro v H1 ⟨φ1, G1, T1, u, f1, s1, r1, h1⟩
  rw [den, R.bind_ok] at h1
  exact ⟨rfl, φ1, G1, O, T1, u, s1, r1, h1⟩
def KTup (K : PySem.W.Frag) (mg : Str → Option Value) (x : Str) (ts : List Str) : Prop := ∃ (A : Addr) (o : Obj) (its : Array Value) (k : Nat), mg x = some (.ref A) ∧ K.lookup A = some o ∧ o.cls = .type "tuple" ∧ o.data = .seq its k ∧ its.size ≤ sizeLine ∧ Vals (ts.map V.str) its.toList
theorem y_inG (g : Cg X N sc vm tm n) {ts : List Str} (hm : KTup X.K X.mg x ts) (ha : PE X a (RE ca C ea))
    (hg : sc.names.lookup x = some .globalImplicit := by rfl) (hd : (x == ("__debug__" : Str)) = false := by decide) (hmk : behindInMarks .In (.Name x p) = false := by rfl) : PE X (.Compare a [.In] [.Name x p] pos) (RE ca C (.cmp .isin ea (.c (.tuple (ts.map .str))))) := by
  obtain ⟨A, o, its, k, h1, h2, h3, h4, h5, h6⟩ := hm
  exact (pe_cmpR (op_inG (ca := ca) h2 h3 h4 h5 h6) ha (pe_glob (v := .ref A) (gl_of g hg) h1 rfl hd) hmk).imp to_inG
theorem t_inG (g : Cg X N sc vm tm n) {ts : List Str} (hm : KTup X.K X.mg x ts) (ha : PE X a (RE ca C ea))
    (hg : sc.names.lookup x = some .globalImplicit := by rfl) (hd : (x == ("__debug__" : Str)) = false := by decide) (hmk : behindInMarks .In (.Name x p) = false := by rfl) : PT X (.Compare a [.In] [.Name x p] pos) (RT ca C (.cmp .isin ea (.c (.tuple (ts.map .str))))) := by
  obtain ⟨A, o, its, k, h1, h2, h3, h4, h5, h6⟩ := hm
  exact (pt_cmpR (op_inG (ca := ca) h2 h3 h4 h5 h6) ha (pe_glob (v := .ref A) (gl_of g hg) h1 rfl hd) hmk).imp fun σ H Q h => by
    obtain ⟨φ, G, O, ρ, T, t, h⟩ := to_tst σ H Q h
    exact to_inG σ H _ ⟨φ, G, O, ρ, T, t, h⟩
end
theorem RpUs.pick {G : Hp} {φ : List Addr} {vs : List V} {us : List U} (r : RpUs G φ vs us) (ix : List Nat) : RpUs G φ (ix.filterMap fun i => vs[i]?) (ix.filterMap fun i => us[i]?) := by
  induction ix with
  | nil => exact .nil
  | cons i ix ih =>
    cases e : us[i]? with
    | none =>
      have e2 : vs[i]? = none := by
        rw [List.getElem?_eq_none_iff] at e ⊢
        rw [r.length]; exact e
      simp only [List.filterMap_cons, e, e2]
      exact ih
    | some u =>
      obtain ⟨v, e2, rv⟩ := r.get e
      simp only [List.filterMap_cons, e, e2]
      exact .cons rv ih
theorem rels_pick {vs : List V} {us : List Value} (r : Vals vs us) (ix : List Nat) : Vals (ix.filterMap fun i => vs[i]?) (ix.filterMap fun i => us[i]?) := by
  induction ix with
  | nil => exact .nil
  | cons i ix ih =>
    cases e : vs[i]? with
    | none =>
      have e2 : us[i]? = none := by
        rw [List.getElem?_eq_none_iff] at e ⊢
        rw [← r.length]; exact e
      simp only [List.filterMap_cons, e, e2]
      exact ih
    | some u =>
      obtain ⟨v, e2, rv⟩ := r.get e
      simp only [List.filterMap_cons, e, e2]
      exact .cons rv ih
def tStp (K : PySem.W.Frag) (te : TE) (lo : Option Int) (k : Int) : TE := fun σ H Q => te σ H fun x H1 => ∃ a xs, x = .ref a ∧ SqL K H1 a xs ∧ ∀ p, H1 p = none → Q (.ref p) (upd H1 p (.lst (pickS lo k xs)))
theorem pick_len {vs : List V} {lo : Option Int} {k : Int} : (pickS lo k vs).length ≤ vs.length := by
  have := slicePick_size_le (vs.map fun _ => Value.none).toArray lo none (some k)
  unfold slicePick at this
  unfold pickS
  simp at this
  refine Nat.le_trans (Nat.le_of_eq ?_) this
  generalize (sliceRange _ _ _) = ix
  induction ix with
  | nil => rfl
  | cons i ix ih =>
    by_cases h : i < vs.length
    · simp [h, ih]
    · simp [h, ih]
theorem pe_stp {X : Cx} {e : Expr} {te : TE} {lo : Option Expr} {l : Option Int} {k : Int} {kk : Nat} {p1 p3 pos : Pos} (hk : k ≠ 0) (he : PE X e te) (hlo : PO X lo (fun _ H R => R l H)) : PE X (.Subscript e (.Slice lo none (some (.Constant (.int k) kk p1)) p3) pos) (tStp X.K te l k) := by
  refine ⟨fun pins s σ H Q I h => ?_⟩
  refine Subscript_ (thn (he.run pins s σ H _ I h) fun v s1 ⟨x, H1, I1, r1, q1⟩ => ?_)
  obtain ⟨a, xs, ex, hx, q⟩ := q1
  subst ex
  cases r1
  have hst : PO X (some (.Constant (.int k) kk p1)) (tPart (tC (.int k))) := po_some pe_int
  refine wpAny_Slice (thn (hlo.run pins s1 σ H1 (fun o H2 => o = l ∧ H2 = H1) I1 ⟨rfl, rfl⟩) fun vl s2 ⟨l, H2, I2, pl, el, e2⟩ => ?_)
  subst el e2
  refine thn (po_none.run pins s2 σ H2 (fun o H3 => o = none ∧ H3 = H2) I2 ⟨rfl, rfl⟩) fun vu s3 ⟨u, H3, I3, pu, eu, e3⟩ => ?_
  subst eu e3
  refine thn (hst.run pins s3 σ H3 (fun o H4 => o = some k ∧ H4 = H3) I3 ⟨k, rfl, rfl, rfl⟩) fun vs s4 ⟨o, H4, I4, ps, eo, e4⟩ => ?_
  subst eo e4
  have I5 : Inv X pins σ H4 { s4 with heap := s4.heap.push { cls := .type "slice", data := .fields #[vl, vu, vs] } } := I4.kept (t' := s4.toks) fun b ob q => Heap.get?_push_of_some _ q
  obtain ⟨its, r, ht, hz⟩ := I5.list hx
  have hlen := r.length
  show wpAny (model X.prog X.w) X.A (subscriptTail e (.Slice lo none (some (.Constant (.int k) kk p1)) p3) (.ref a) (.ref s4.heap.objs.size)) (EP X pins σ Q) X.xe { s4 with heap := s4.heap.push { cls := .type "slice", data := .fields #[vl, vu, vs] } }
  refine tail_any (ops := [.ref a, .ref s4.heap.objs.size]) ht.isList.typeIs (PySem.slot_list_getitem.lookup) ?_ (by with_unfolding_all rfl)
  refine wpAny_getItem_list_slice ht.isList (Heap.IsSliceOf.new _ vl vu vs) pl pu ps (by simpa using hk) ?_ (by rw [List.size_toArray]; omega)
  refine ⟨.ref _, _, I5.laid (t' := s4.toks) (o := .lst (pickS l k xs)) (fun b ob q => Heap.get?_push_of_some _ q) (Nat.le_refl _) ?_, rfl, q _ (I5.hok.fresh (Nat.le_refl _))⟩
  refine ⟨Nat.le_trans pick_len hz, _, 0, ?_, Heap.get?_push_size _ rfl⟩
  have := rels_pick r (sliceRange (sliceBounds l none (some k) xs.length).1 (sliceBounds l none (some k) xs.length).2.1 (sliceBounds l none (some k) xs.length).2.2)
  have e : its.toArray.size = xs.length := by rw [List.size_toArray]; exact hlen.symm
  rw [e]
  simp only [List.getElem?_toArray]
  exact this
section
variable {ca : Nat → Addr} {X : Cx} {C : Cn} {a : Expr} {ea : CE} {pos p1 p2 p3 : Pos} {l : Bool}
theorem to_stp {K : PySem.W.Frag} {lo : Option Int} {k : Int} : ∀ σ H Q, RE ca C (.bi l (.stp lo k) (.cons ea .nil)) σ H Q → tStp K (RE ca C ea) lo k σ H Q := by
  intro σ H Q h
  obtain ⟨φ, G, O, ρ, T, t, h⟩ := to_op1 (ea := ea) (f := fun O x T => stpB O l lo k T x) (fun O ρ T => by
    rw [den, denA]
    cases den C O ρ ea T with
    | ok x T1 =>
      simp only [Y.R.bind_ok, denA]
      rfl
    | exc => rfl
    | fail => rfl) σ H Q h
  refine ⟨φ, G, O, ρ, T, t, Pc.imp h ?_⟩
  rintro v H1 ⟨φ1, G1, O1, T1, u, sd, r, h⟩
  have h : Pc ca rU φ1 G1 O1 (stpB O1 l lo k T1 u) Q := h
  unfold stpB at h
  cases e2 : seqL O1 T1 u with
  | none => rw [e2] at h; exact h.elim
  | some us =>
    rw [e2] at h
    simp only at h
    by_cases hk : 1 ≤ k
    · rw [if_pos (by simpa using hk)] at h
      obtain ⟨a, ys, rfl, hy, ry⟩ := seqL_ok sd r e2
      refine ⟨a, ys, rfl, .inl hy, fun p np => mkL_ok h sd ?_ np⟩
      unfold pickS
      rw [ry.length]
      exact ry.pick _
    · rw [if_neg (by simpa using hk)] at h; exact h.elim
theorem y_stp0 {k : Int} {kk : Nat} (hk : k ≠ 0) (ha : PE X a (RE ca C ea)) : PE X (.Subscript a (.Slice none none (some (.Constant (.int k) kk p1)) p3) pos) (RE ca C (.bi l (.stp none k) (.cons ea .nil))) :=
  (pe_stp hk ha ⟨fun pins s σ H Q I q => po_none.run pins s σ H Q I q⟩).imp to_stp
theorem y_stp1 {k j : Int} {kk jj : Nat} (hk : k ≠ 0) (ha : PE X a (RE ca C ea)) : PE X (.Subscript a (.Slice (some (.Constant (.int j) jj p2)) none (some (.Constant (.int k) kk p1)) p3) pos) (RE ca C (.bi l (.stp (some j) k) (.cons ea .nil))) :=
  (pe_stp hk ha ⟨fun pins s σ H Q I q => (po_some pe_int).run pins s σ H Q I ⟨j, rfl, q⟩⟩).imp to_stp
end
def iKeysL (td : TE) : TI := fun σ H R => td σ H fun x H1 => ∃ d kvs, x = .ref d ∧ H1 d = some (.dT kvs) ∧ ∀ od, R (Itkt d od kvs) (upd H1 d (.frz od (.dT kvs)))
theorem pi_keysL {X : Cx} {tg e : Expr} {td : TE} (he : PE X e td) : PI X tg e (iKeysL td) := by
  refine ⟨fun pins s σ H R I h => ?_⟩
  refine thn (he.run pins s σ H _ I h) fun u s1 ⟨x, H1, I1, rx, d, kvs, ex, hd, q⟩ => ?_
  subst ex
  obtain rfl : u = Value.ref d := rx
  obtain ⟨od, I2⟩ := I1.lock hd trivial
  have hd2 : upd H1 d (.frz od (.dT kvs)) d = some (.frz od (.dT kvs)) := upd_same
  obtain ⟨hs, hgd, hx, es, ep, hdt, hsz, ent⟩ := I2.frzT hd2
  refine iter_keys hs hgd hx hdt (pi_one (tk := s1.toks) I2 _ (turn_keysT _ hdt) ⟨_, Heap.get?_push_size _ rfl, rfl, ?_⟩ (q od))
  rw [hsz] <;> rfl
section
variable {ca : Nat → Addr} {φ φ0 : List Addr} {G G0 H : Hp} {S : Cs}
/-- something that stands for ever is known from now on -/
theorem Sd.learn (s : Sd ca φ G H S) {q : Addr} {o : HO} (h : H q = some o) (hn : ∀ (i : Nat) (c : Cell), φ[i]? = some q → S[i]? = some c → ¬ live c) : Sd ca φ (upd G q o) H S := by
  refine ⟨s.len, s.nd, s.ex.into h, fun i a c h1 h2 h3 => ?_, s.kn, fun i a c h1 h2 => ?_⟩
  · rw [upd_ne (fun e : a = q => hn i c (by rw [← e]; exact h1) h2 h3)]
    exact s.off i a c h1 h2 h3
  · exact (s.cell i a c h1 h2).mono ⟨fun _ _ h => h, fun b u hb => by
      by_cases e : b = q
      · subst e
        rw [upd_same]
        have := s.ex _ _ hb
        rw [h] at this
        exact this
      · rw [upd_ne e]; exact hb⟩ rfl
theorem Sd.learnF (s : Sd ca φ G H S) {q : Addr} {o : HO} (h : H q = some o) : Fut φ G φ (upd G q o) := ⟨fun _ _ h => h, fun b u hb => by
  by_cases e : b = q
  · subst e
    rw [upd_same]
    have := s.ex _ _ hb
    rw [h] at this
    exact this
  · rw [upd_ne e]; exact hb⟩
theorem rps_key (G : Hp) : ∀ k : Ky, Rps G (k.map kV) (k.map kD)
  | [] => .nil
  | .inl i :: r => .cons (.int i) (rps_key G r)
  | .inr x :: r => .cons (.str x) (rps_key G r)
theorem RpK.get : ∀ {ws : List (List L2.Key × V)} {kvs : List (Ky × U)} {i : Nat} {p : Ky × U}, RpK G φ ws kvs → kvs[i]? = some p → ∃ v, ws[i]? = some (p.1, v)
  | _, _, i, p, .nil, h => by simp at h
  | _, _, 0, p, .cons _ t, h => by simp at h; subst h; exact ⟨_, rfl⟩
  | _, _, i + 1, p, .cons _ t, h => by
    simp at h
    obtain ⟨v, e⟩ := RpK.get t h
    exact ⟨v, by simpa using e⟩
theorem itkt_ok {O : Cs} {d : Addr} {od : Obj} {ws : List (List L2.Key × V)} {kvs : List (Ky × U)} {T0 : Cs} (hd : G0 d = some (.frz od (.dT ws))) (r : RpK G0 φ0 ws kvs) : JOk ca (Itkt d od ws) ⟨kvs.map fun p => .d (keyD p.1), none, T0⟩ φ0 G0 O := by
  intro φ G H' T' f s hw
  have hd' : H' d = some (.frz od (.dT ws)) := s.ex _ _ (f.ex _ _ hd)
  refine ⟨fun i u hu => ?_, ⟨hd', by simp [r.length]⟩⟩
  rw [List.getElem?_map, Option.map_eq_some_iff] at hu
  obtain ⟨p, hp, rfl⟩ := hu
  obtain ⟨v, hv⟩ := r.get hp
  refine ⟨⟨hd', (List.getElem?_eq_some_iff.mp hv).1⟩, fun x' H2 hy => ?_⟩
  obtain ⟨rfl, k, v', q, e1, rfl, hq⟩ := hy
  rw [hv] at e1
  cases e1
  refine ⟨Ex.refl _, upd G q (.tup (p.1.map kV)), s.learnF hq, s.learn hq fun j c h1 h2 hl => ?_, ?_⟩
  · have := s.cell j q c h1 h2
    cases c with
    | lst ds => obtain ⟨_, h, _⟩ := this; rw [hq] at h; cases h
    | lstU ds => obtain ⟨_, h, _⟩ := this; rw [hq] at h; cases h
    | dct ds => obtain ⟨_, h, _⟩ := this; rw [hq] at h; cases h
    | dctU ds => obtain ⟨_, h, _⟩ := this; rw [hq] at h; cases h
    | ins c ds => obtain ⟨_, _, h, _⟩ := this; rw [hq] at h; cases h
    | dead => exact hl
  · exact .d (.tup upd_same (rps_key _ _))
theorem Sd.lock (s : Sd ca φ G H S) {i : Nat} {a : Addr} {c : Cell} {o : HO} (hi : φ[i]? = some a) (hc : S[i]? = some c) (hl : live c) : Sd ca φ (upd G a o) (upd H a o) (S.set i .dead) := by
  refine (s.write (c' := .dead) hi hc hl trivial).learn upd_same fun j d h1 h2 hd => ?_
  have : j = i := by
    by_cases e : j = i
    · exact e
    · exact absurd rfl (nd_ne s.nd h1 hi e)
  subst this
  rw [List.getElem?_set_self (List.getElem?_eq_some_iff.mp hc).1] at h2
  cases h2
  exact hd
variable {X : Cx} {C : Cn} {e tg : Expr} {ea : CE} {es : List Expr} {pos : Pos} {N : List Str} {sc : Scope} {vm tm : List Bool} {n : Nat}
theorem i_keys (ha : PE X e (RE ca C ea)) : PI X tg e (RI ca C (.keys ea)) := (pi_keysL ha).imp (by
  intro σ H R h
  obtain ⟨φ, G, O, ρ, T, t, h⟩ := h
  rw [denI] at h
  refine ⟨φ, G, O, ρ, T, t, ?_⟩
  cases e1 : den C O ρ ea T with
  | exc => rw [e1] at h; exact h
  | fail => rw [e1] at h; exact h
  | ok x T1 =>
    rw [e1] at h
    intro v φ1 G1 H1 f s r
    simp only [Y.R.bind_ok] at h
    cases x with
    | d => exact h.elim
    | tup => exact h.elim
    | ref i =>
      cases r with
      | ref hi =>
        rename_i a
        simp only at h
        cases e2 : dictOf O T1 (.ref i) with
        | none => rw [e2] at h; exact h.elim
        | some kvs =>
          rw [e2] at h
          simp only at h
          unfold setC at h
          by_cases hb : O.length ≤ i ∧ i < O.length + T1.length
          · rw [if_pos hb] at h
            simp only [Y.R.bind_ok] at h
            have key : ∃ c ws, (O ++ T1)[i]? = some c ∧ live c ∧ H1 a = some (.dT ws) ∧ RpK G1 φ1 ws kvs := by
              unfold dictOf at e2
              simp only at e2
              cases ec : getC O T1 i with
              | none => rw [ec] at e2; cases e2
              | some c =>
                have hc := cell_at s hi ec
                rw [getC_eq] at ec
                rw [getC_eq, ec] at e2
                cases c with
                | dct kv =>
                  cases e2
                  obtain ⟨ws, h1, h2⟩ := hc
                  exact ⟨_, ws, ec, trivial, h1, h2⟩
                | dctU kv =>
                  cases e2
                  obtain ⟨ws, h1, h2⟩ := hc
                  exact ⟨_, ws, ec, trivial, h1, h2⟩
                | lst => cases e2
                | lstU => cases e2
                | ins => cases e2
                | dead => cases e2
            obtain ⟨c, ws, k1, k2, k3, k4⟩ := key
            refine ⟨_, ws, rfl, k3, fun od => ?_⟩
            have s2 := s.lock (o := .frz od (.dT ws)) hi k1 k2
            rw [set_own _ _ _ _ hb.1] at s2
            have F : Fut φ1 G1 φ1 (upd G1 a (.frz od (.dT ws))) := s.freezeF hi k1 k2
            exact h _ φ1 _ _ (f.trans F) s2 (itkt_ok upd_same (F.k k4))
          · rw [if_neg hb] at h; exact h.elim)
theorem g_lp {kk : Nat} {qs : Tgs} (g : Cg X N sc vm tm n) (h : PGs X es (RGs ca qs)) (hn : (assignEach es X.env).length = lenTgs qs := by rfl) (hst : (assignEach es X.env).findIdx? (·.1) = none := by rfl) : PG X (.Tuple es kk pos) (RG ca (.lp qs)) := by
  refine (pg_lst (n := lenTgs qs) g.calm h hn hst).imp ?_
  rintro v σ H Q ⟨φ, G, O, ρ, T, u, t, r, h⟩
  rw [asgT] at h
  cases e : seqL O T u with
  | none => rw [e] at h; exact h.elim
  | some us =>
    rw [e] at h
    obtain ⟨a, vs, rfl, ha, ra⟩ := seqL_ok t.s r e
    refine ⟨a, vs, rfl, .inl ha, ?_, φ, G, O, ρ, T, us, t, ra, h⟩
    cases e2 : asgTs O T qs us ρ with
    | none => have h' : (match asgTs O T qs us ρ with | some ρ' => ∀ σ', At ca φ G H O T σ' ρ' → SameBut (slotsTs qs) σ σ' → Q σ' H | none => False) := h; rw [e2] at h'; exact h'.elim
    | some ρ' => rw [ra.length]; exact asgTs_len qs us ρ ρ' e2
end
end Y

set_option Elab.async false
set_option linter.all false
set_option maxRecDepth 100000
set_option maxHeartbeats 1000000
namespace Y
open PySem
theorem run_S {G : Pg} {j : Nat} {fd : FD} (h : G.defs j = some fd) (n : Nat) (O : Cs) (us : List U) (T : Cs) : Y.run G (n + 1) O j us T = bodyRun (cn G n) O fd us T := by
  rw [Y.run, h]
theorem bodyRun_eq {C : Cn} {O : Cs} {np ns : Nat} {b : CB} {us : List U} {T : Cs} (h : us.length = np) : bodyRun C O ⟨np, ns, b⟩ us T = match denB C O b (us.map some ++ List.replicate (ns - us.length) none) T with
    | .nx _ T' => .ok (.d .none) T'
    | .rt u T' => .ok u T'
    | .exc c fs _ T' => .exc c fs T'
    | _ => .fail := by
  unfold bodyRun
  rw [if_pos h] <;> rfl
def fin (r : F) : R U := match r with
    | .nx _ T' => .ok (.d .none) T'
    | .rt u T' => .ok u T'
    | .exc c fs _ T' => .exc c fs T'
    | _ => .fail
@[simp] theorem fin_nx (ρ : Rho) (T : Cs) : fin (.nx ρ T) = .ok (.d .none) T := rfl
@[simp] theorem fin_rt (u : U) (T : Cs) : fin (.rt u T) = .ok u T := rfl
@[simp] theorem fin_bk (ρ : Rho) (T : Cs) : fin (.bk ρ T) = .fail := rfl
@[simp] theorem fin_ct (ρ : Rho) (T : Cs) : fin (.ct ρ T) = .fail := rfl
@[simp] theorem fin_fail : fin .fail = .fail := rfl
theorem run_to {G : Pg} {j np ns n : Nat} {b : CB} {O : Cs} {us : List U} {T : Cs} {r : R U} (hG : G.defs j = some ⟨np, ns, b⟩) (hl : us.length = np) (h : fin (denB (cn G n) O b (us.map some ++ List.replicate (ns - us.length) none) T) = r) : Y.run G (n + 1) O j us T = r := by
  rw [run_S hG, bodyRun_eq hl, ← h]
  rfl
section
variable {C : Cn} {O T : Cs} {ρ : Rho} {G : Pg} {n : Nat}
@[simp] theorem cn_call : (cn G n).call = Y.run G n := rfl
@[simp] theorem cn_make : (cn G n).make = Y.run G n := rfl
@[simp] theorem cn_glob : (cn G n).glob = G.glob := rfl
theorem denB_nx {s : CS} {b : CB} {ρ' : Rho} {T' : Cs} (h : denS C O s ρ T = .nx ρ' T') : denB C O (.cons s b) ρ T = denB C O b ρ' T' := by
  rw [denB, h]
theorem denB_rt {s : CS} {b : CB} {u : U} {T' : Cs} (h : denS C O s ρ T = .rt u T') : denB C O (.cons s b) ρ T = .rt u T' := by
  rw [denB, h]
theorem for_ok {g : Tg} {it : IT} {b : CB} {its : Its} {T0 : Cs} (I : Nat → Rho → Cs → Prop) (e : denI C O ρ it T = .ok its T0) (h0 : I 0 ρ T0) (hw : ∀ i ρ T, I i ρ T → sameW O its.t T its.w = true)
    (h : ∀ i u, its.us[i]? = some u → ∀ ρ T, I i ρ T → ∃ ρ1 ρ' T', asgT O T g u ρ = some ρ1 ∧ (denB C O b ρ1 T = .nx ρ' T' ∨ denB C O b ρ1 T = .ct ρ' T') ∧ I (i + 1) ρ' T') : ∃ ρ' T', denS C O (.for_ g it b) ρ T = .nx ρ' T' ∧ I its.us.length ρ' T' := by
  rw [denS, e]
  simp only
  suffices k : ∀ (us : List U) (i : Nat) (ρ : Rho) (T : Cs), its.us.drop i = us → i ≤ its.us.length → I i ρ T → ∃ ρ' T', loopF (fun u ρ T => match asgT O T g u ρ with
        | some ρ' => denB C O b ρ' T
        | none => .fail) (fun T' => sameW O its.t T' its.w) us ρ T = .nx ρ' T' ∧ I its.us.length ρ' T' from k its.us 0 ρ T0 rfl (Nat.zero_le _) h0
  intro us
  induction us with
  | nil =>
    intro i ρ T hd hi hI
    have : its.us.length ≤ i := List.drop_eq_nil_iff.mp hd
    have e : i = its.us.length := by omega
    subst e
    refine ⟨ρ, T, ?_, hI⟩
    rw [loopF, if_pos (hw _ _ _ hI)]
  | cons u us ih =>
    intro i ρ T hd hi hI
    have hlt : i < its.us.length := by
      rcases Nat.lt_or_ge i its.us.length with h | h
      · exact h
      · rw [List.drop_eq_nil_of_le h] at hd; cases hd
    have hu : its.us[i]? = some u := by
      rw [List.drop_eq_getElem_cons hlt] at hd
      rw [List.getElem?_eq_getElem hlt]
      cases hd; rfl
    obtain ⟨ρ1, ρ2, T2, e1, e2, hI2⟩ := h i u hu ρ T hI
    obtain ⟨ρ3, T3, e3, hI3⟩ := ih (i + 1) ρ2 T2 (by rw [List.drop_eq_getElem_cons hlt] at hd; cases hd; rfl) hlt hI2
    refine ⟨ρ3, T3, ?_, hI3⟩
    rw [loopF_c _ _ _ _ _ _ (hw _ _ _ hI)]
    simp only [e1]
    rcases e2 with e2 | e2
    · rw [e2]; exact e3
    · rw [e2]; exact e3
end
section
variable (C : Cn) (O T : Cs) (ρ : Rho)
@[simp] theorem den_v (i : Nat) : den C O ρ (.v i) T = match ρ[i]? with
  | some (some u) => .ok u T
  | _ => .fail := by rw [den] <;> rfl
@[simp] theorem den_c (x : D) : den C O ρ (.c x) T = .ok (.d x) T := by rw [den]
@[simp] theorem den_g (k : Nat) : den C O ρ (.g k) T = match C.glob k with
    | some x => .ok (.d x) T
    | none => .fail := by rw [den] <;> rfl
@[simp] theorem den_bin (l o a b) : den C O ρ (.bin l o a b) T = (den C O ρ a T).bind fun x T => (den C O ρ b T).bind fun y T => binU O l o x y T := by rw [den]
@[simp] theorem den_neg (a) : den C O ρ (.neg a) T = (den C O ρ a T).bind fun x T => match x with
    | .d (.int i) => .ok (.d (.int (-i))) T
    | _ => .fail := by rw [den] <;> rfl
@[simp] theorem den_cmp (o a b) : den C O ρ (.cmp o a b) T = (den C O ρ a T).bind fun x T => (den C O ρ b T).bind fun y T => match cmpU O o x y T with
    | some k => .ok (.d (.bool k)) T
    | none => .fail := by rw [den] <;> rfl
@[simp] theorem den_chain (o o' a b e) : den C O ρ (.chain o o' a b e) T = (den C O ρ a T).bind fun x T => (den C O ρ b T).bind fun y T => brB (cmpU O o x y T) ((den C O ρ e T).bind fun z T => match cmpU O o' y z T with
      | some k => .ok (.d (.bool k)) T
      | none => .fail) (.ok (.d (.bool false)) T) := by
  rw [den] <;> rfl
@[simp] theorem den_and (a b) : den C O ρ (.and a b) T = (den C O ρ a T).bind fun x T => brB (asB x) (den C O ρ b T) (.ok (.d (.bool false)) T) := by rw [den]
@[simp] theorem den_or (a b) : den C O ρ (.or a b) T = (den C O ρ a T).bind fun x T => brB (asB x) (.ok (.d (.bool true)) T) (den C O ρ b T) := by rw [den]
@[simp] theorem den_not (a) : den C O ρ (.not a) T = (den C O ρ a T).bind fun x T => match asB x with
    | some b => .ok (.d (.bool (!b))) T
    | none => .fail := by rw [den] <;> rfl
@[simp] theorem den_ite (t a b) : den C O ρ (.ite t a b) T = (den C O ρ t T).bind fun x T => brB (asB x) (den C O ρ a T) (den C O ρ b T) := by rw [den]
@[simp] theorem den_tup (as) : den C O ρ (.tup as) T = (denA C O ρ as T).bind fun us T => if sizeOk us.length then .ok (mkT us) T else .fail := by rw [den]
@[simp] theorem den_lst (l as) : den C O ρ (.lst l as) T = (denA C O ρ as T).bind fun us T => if sizeOk us.length then mkL O l us T else .fail := by rw [den]
@[simp] theorem den_ix (a b) : den C O ρ (.ix a b) T = (den C O ρ a T).bind fun x T => (den C O ρ b T).bind fun y T => R.ofO T (ixU O x y T) := by rw [den]
@[simp] theorem den_slc (l a lo hi) : den C O ρ (.slc l a lo hi) T = (den C O ρ a T).bind fun x T => (if isSkip lo then .ok none T else (den C O ρ lo T).bind fun l T => partU l T).bind fun l' T =>
      (if isSkip hi then .ok none T else (den C O ρ hi T).bind fun h T => partU h T).bind fun h T => slcU O l x l' h T := by rw [den]
@[simp] theorem den_call (l f as ds) : den C O ρ (.call l f as ds) T = (denA C O ρ as T).bind fun us T => if l then C.call O f (us ++ ds.map .d) T else callP C O f (us ++ ds.map .d) T := by rw [den]
@[simp] theorem den_bi (l b as) : den C O ρ (.bi l b as) T = (denA C O ρ as T).bind fun us T => biU O l b us T := by rw [den]
@[simp] theorem den_mt (l m o as) : den C O ρ (.mt l m o as) T = (den C O ρ o T).bind fun x T => if tyU O T x = some (mtTy m) then (denA C O ρ as T).bind fun us T => mtU O l m x us T else .fail := by rw [den]
@[simp] theorem den_mcall (c f m o as) : den C O ρ (.mcall c f m o as) T = (den C O ρ o T).bind fun x T => if clsOf O T x = some c ∧ (fldU O x m T).isNone = true then (denA C O ρ as T).bind fun us T => C.call O f (x :: us) T else .fail := by rw [den]
@[simp] theorem den_mk (c f as) : den C O ρ (.mk c f as) T = (denA C O ρ as T).bind fun us T => (C.make O f (.ref (O.length + T.length) :: us) (T ++ [.ins c []])).bind fun v T' => if isNone v then .ok (.ref (O.length + T.length)) T' else .fail := by rw [den]
@[simp] theorem den_fld (c o f) : den C O ρ (.fld c o f) T = (den C O ρ o T).bind fun x T => if clsOf O T x = some c then R.ofO T (fldU O x f T) else .fail := by rw [den]
@[simp] theorem den_dict0 : den C O ρ .dict0 T = .ok (.ref (O.length + T.length)) (T ++ [.dct []]) := by rw [den]
@[simp] theorem den_frz (a) : den C O ρ (.frz a) T = (den C O ρ a T).bind fun x T => frzU O x T := by rw [den]
@[simp] theorem denA_nil : denA C O ρ .nil T = .ok [] T := by rw [denA]
@[simp] theorem denA_cons (a r) : denA C O ρ (.cons a r) T = (den C O ρ a T).bind fun u T => (denA C O ρ r T).bind fun us T => .ok (u :: us) T := by rw [denA]
@[simp] theorem denI_lst (a) : denI C O ρ (.lst a) T = (den C O ρ a T).bind fun x T => match seqL O T x with
    | some us => .ok ⟨us, watch x, T⟩ T
    | none => .fail := by rw [denI] <;> rfl
@[simp] theorem denI_tup (a) : denI C O ρ (.tup a) T = (den C O ρ a T).bind fun x T => match seqT x with
    | some us => .ok ⟨us, none, T⟩ T
    | none => .fail := by rw [denI] <;> rfl
@[simp] theorem denI_rng1 (a) : denI C O ρ (.rng1 a) T = (den C O ρ a T).bind fun x T => match x with
    | .d (.int j) => if rngOk 0 j then .ok ⟨rngU 0 j.toNat 1, none, T⟩ T else .fail
    | _ => .fail := by rw [denI] <;> rfl
@[simp] theorem denI_rng2 (a b) : denI C O ρ (.rng2 a b) T = (den C O ρ a T).bind fun x T => (den C O ρ b T).bind fun y T => match x, y with
    | .d (.int i), .d (.int j) => if rngOk i j then .ok ⟨rngU i (j - i).toNat 1, none, T⟩ T else .fail
    | _, _ => .fail := by rw [denI] <;> rfl
@[simp] theorem denI_enumL (a) : denI C O ρ (.enumL a) T = (den C O ρ a T).bind fun x T => match seqL O T x with
    | some us => .ok ⟨us.zipIdx.map fun p => mkT [.d (.int (p.2 : Nat)), p.1], watch x, T⟩ T
    | none => .fail := by rw [denI] <;> rfl
@[simp] theorem denI_enumT (a) : denI C O ρ (.enumT a) T = (den C O ρ a T).bind fun x T => match seqT x with
    | some us => .ok ⟨us.zipIdx.map fun p => mkT [.d (.int (p.2 : Nat)), p.1], none, T⟩ T
    | none => .fail := by rw [denI] <;> rfl
@[simp] theorem denI_revL (a) : denI C O ρ (.revL a) T = (den C O ρ a T).bind fun x T => match seqL O T x with
    | some us => .ok ⟨us.reverse, watch x, T⟩ T
    | none => .fail := by rw [denI] <;> rfl
@[simp] theorem denI_str (a) : denI C O ρ (.str a) T = (den C O ρ a T).bind fun x T => match x with
    | .d (.str s) => .ok ⟨s.cps.toList.map fun c => .d (.str ⟨#[c]⟩), none, T⟩ T
    | _ => .fail := by rw [denI] <;> rfl
theorem denS_asg (g e) : denS C O (.asg g e) ρ T = F.of ρ (den C O ρ e T) fun u T => match asgT O T g u ρ with
    | some ρ' => .nx ρ' T
    | none => .fail := by rw [denS] <;> rfl
@[simp] theorem denS_ex (e) : denS C O (.ex e) ρ T = F.of ρ (den C O ρ e T) fun _ T => .nx ρ T := by rw [denS]
@[simp] theorem denS_ret (e) : denS C O (.ret e) ρ T = F.of ρ (den C O ρ e T) fun u T => .rt u T := by rw [denS]
@[simp] theorem denS_retN : denS C O .retN ρ T = .rt (.d .none) T := by rw [denS]
@[simp] theorem denS_brk : denS C O .brk ρ T = .bk ρ T := by rw [denS]
@[simp] theorem denS_cnt : denS C O .cnt ρ T = .ct ρ T := by rw [denS]
@[simp] theorem denS_pass : denS C O .pass ρ T = .nx ρ T := by rw [denS]
theorem denS_ite (t a b) : denS C O (.ite t a b) ρ T = F.of ρ (den C O ρ t T) fun x T => match asB x with
    | some true => denB C O a ρ T
    | some false => denB C O b ρ T
    | none => .fail := by rw [denS] <;> rfl
@[simp] theorem denS_seti (o i e) : denS C O (.seti o i e) ρ T = F.of ρ (den C O ρ e T) fun v T => F.of ρ (den C O ρ o T) fun x T => F.of ρ (den C O ρ i T) fun y T => F.of ρ (setiU O x y v T) fun _ T => .nx ρ T := by rw [denS]
@[simp] theorem denS_setf (c o f e) : denS C O (.setf c o f e) ρ T = F.of ρ (den C O ρ e T) fun v T => F.of ρ (den C O ρ o T) fun x T => if clsOf O T x = some c then F.of ρ (setfU O x f v T) fun _ T => .nx ρ T else .fail := by rw [denS]
theorem denB_nil : denB C O .nil ρ T = .nx ρ T := by rw [denB]
theorem denB_cons (s b) : denB C O (.cons s b) ρ T = match denS C O s ρ T with
    | .nx ρ' T' => denB C O b ρ' T'
    | r => r := by
  rw [denB] <;> cases denS C O s ρ T <;> rfl
@[simp] theorem asgT_nm (i u) : asgT O T (.nm i) u ρ = some (ρ.set i (some u)) := by rw [asgT]
@[simp] theorem asgT_tp (ts u) : asgT O T (.tp ts) u ρ = match seqT u with
  | some us => asgTs O T ts us ρ
  | none => none := by rw [asgT] <;> rfl
@[simp] theorem asgTs_nil : asgTs O T .nil [] ρ = some ρ := by rw [asgTs]
@[simp] theorem asgTs_cons (t ts u us) : asgTs O T (.cons t ts) (u :: us) ρ = match asgT O T t u ρ with
    | some ρ' => asgTs O T ts us ρ'
    | none => none := by rw [asgTs] <;> rfl
@[simp] theorem asB_bool (b : Bool) : asB (.d (.bool b)) = some b := rfl
@[simp] theorem isSkip_skip : isSkip .skip = true := rfl
@[simp] theorem isSkip_v (i) : isSkip (.v i) = false := rfl
@[simp] theorem isSkip_c (i) : isSkip (.c i) = false := rfl
@[simp] theorem isSkip_bin (l o a b) : isSkip (.bin l o a b) = false := rfl
@[simp] theorem isSkip_bi (l o a) : isSkip (.bi l o a) = false := rfl
@[simp] theorem isSkip_g (i) : isSkip (.g i) = false := rfl
@[simp] theorem partU_int (i : Int) : partU (.d (.int i)) T = .ok (some i) T := rfl
@[simp] theorem seqL_d (ds : List D) : seqL O T (.d (.list ds)) = some (ds.map .d) := rfl
@[simp] theorem seqT_d (ds : List D) : seqT (.d (.tuple ds)) = some (ds.map .d) := rfl
@[simp] theorem seqT_t (us : List U) : seqT (.tup us) = some us := rfl
@[simp] theorem seqL_int (i : Int) : seqL O T (.d (.int i)) = none := rfl
@[simp] theorem seqL_tup (i) : seqL O T (.d (.tuple i)) = none := rfl
@[simp] theorem seqL_tupU (i) : seqL O T (.tup i) = none := rfl
@[simp] theorem seqL_str (i) : seqL O T (.d (.str i)) = none := rfl
@[simp] theorem seqL_ref (i) : seqL O T (.ref i) = match getC O T i with
    | some (.lst ds) => some (ds.map .d)
    | some (.lstU us) => some us
    | _ => none := rfl
@[simp] theorem seqA_L (ds : List D) : seqA O T (.d (.list ds)) = some (ds.map .d) := rfl
@[simp] theorem seqA_T (ds : List D) : seqA O T (.d (.tuple ds)) = some (ds.map .d) := rfl
@[simp] theorem watch_d (x : D) : watch (.d x) = none := rfl
@[simp] theorem sameW_none (T' : Cs) : sameW O T T' none = true := rfl
@[simp] theorem allD_nil : allD [] = some [] := rfl
@[simp] theorem allD_cons (x : D) (r : List U) : allD (.d x :: r) = (allD r).map (x :: ·) := rfl
@[simp] theorem mkL_map (ds : List D) : mkL O false (ds.map .d) T = .ok (.d (.list ds)) T := by unfold mkL; simp
@[simp] theorem mkL_f (us : List U) : mkL O false us T = match allD us with
    | some ds => .ok (.d (.list ds)) T
    | none => .fail := rfl
@[simp] theorem mkL_t (us : List U) : mkL O true us T = .ok (.ref (O.length + T.length)) (T ++ [cellOf us]) := rfl
@[simp] theorem cellOf_map (ds : List D) : cellOf (ds.map .d) = .lst ds := by unfold cellOf; simp
@[simp] theorem cellOf_nil : cellOf [] = .lst [] := rfl
@[simp] theorem mkT_map (ds : List D) : mkT (ds.map .d) = .d (.tuple ds) := by unfold mkT; simp
@[simp] theorem allD_ref (i : Nat) (r : List U) : allD (.ref i :: r) = none := rfl
@[simp] theorem allD_tup (i : List U) (r : List U) : allD (.tup i :: r) = none := rfl
theorem mkT_eq (us : List U) : mkT us = match allD us with
  | some ds => .d (.tuple ds)
  | none => .tup us := rfl
@[simp] theorem mkT_4 (a b c d : D) : mkT [.d a, .d b, .d c, .d d] = .d (.tuple [a, b, c, d]) := rfl
@[simp] theorem mkT_5 (a b c d e : D) : mkT [.d a, .d b, .d c, .d d, .d e] = .d (.tuple [a, b, c, d, e]) := rfl
@[simp] theorem mkT_6 (a b c d e f : D) : mkT [.d a, .d b, .d c, .d d, .d e, .d f] = .d (.tuple [a, b, c, d, e, f]) := rfl
@[simp] theorem mkT_7 (a b c d e f g : D) : mkT [.d a, .d b, .d c, .d d, .d e, .d f, .d g] = .d (.tuple [a, b, c, d, e, f, g]) := rfl
@[simp] theorem mkT_1 (a : D) : mkT [.d a] = .d (.tuple [a]) := rfl
@[simp] theorem mkT_2 (a b : D) : mkT [.d a, .d b] = .d (.tuple [a, b]) := rfl
@[simp] theorem mkT_3 (a b c : D) : mkT [.d a, .d b, .d c] = .d (.tuple [a, b, c]) := rfl
@[simp] theorem mkT_0 : mkT [] = .d (.tuple []) := rfl
@[simp] theorem binU_int (l o) (i j : Int) : binU O l o (.d (.int i)) (.d (.int j)) T = match binI o i j with
    | some k => .ok (.d (.int k)) T
    | none => .fail := by cases o <;> rfl
@[simp] theorem binI_add (i j : Int) : binI .add i j = some (i + j) := rfl
@[simp] theorem binI_sub (i j : Int) : binI .sub i j = some (i - j) := rfl
@[simp] theorem binI_band (i j : Int) : binI .band i j = some (Builtin.bitAnd i j) := rfl
@[simp] theorem binI_bor (i j : Int) : binI .bor i j = some (Builtin.bitOr i j) := rfl
@[simp] theorem binI_bxor (i j : Int) : binI .bxor i j = some (Builtin.bitXor i j) := rfl
@[simp] theorem binI_mul (i j : Int) : binI .mul i j = if mulOk i j then some (i * j) else none := rfl
@[simp] theorem binI_fdiv (i j : Int) : binI .fdiv i j = if 0 < j ∧ j < 1000000000000000000000000000000000000000000000000000000000000 then some (i / j) else none := rfl
@[simp] theorem binI_mod (i j : Int) : binI .mod i j = if 0 < j then some (i % j) else none := rfl
@[simp] theorem binI_shr (i j : Int) : binI .shr i j = if 0 ≤ j then some (i / 2 ^ j.toNat) else none := rfl
@[simp] theorem binI_shl (i j : Int) : binI .shl i j = if 0 ≤ j ∧ j ≤ 1000 ∧ -18446744073709551616 < i ∧ i < 18446744073709551616 then some (i * 2 ^ j.toNat) else none := rfl
@[simp] theorem binI_pow (i j : Int) : binI .pow i j = if 0 ≤ j ∧ j ≤ 1000 ∧ -18446744073709551616 < i ∧ i < 18446744073709551616 then some (i ^ j.toNat) else none := rfl
@[simp] theorem binU_cat (l) (a b : List D) : binU O l .add (.d (.list a)) (.d (.list b)) T = if sizeOk (a.length + b.length) then mkL O l ((a ++ b).map .d) T else .fail := by
  unfold binU
  simp
@[simp] theorem binU_catT (l) (a b : List D) : binU O l .add (.d (.tuple a)) (.d (.tuple b)) T = if sizeOk (a.length + b.length) then .ok (.d (.tuple (a ++ b))) T else .fail := by
  unfold binU
  simp [← List.map_append]
@[simp] theorem binU_str (l) (a b : Str) : binU O l .add (.d (.str a)) (.d (.str b)) T = if sizeOk (a.length + b.length) then .ok (.d (.str (a ++ b))) T else .fail := rfl
@[simp] theorem isNone_none : isNone (.d .none) = true := rfl
@[simp] theorem isNone_int (i) : isNone (.d (.int i)) = false := rfl
@[simp] theorem isNone_str (i) : isNone (.d (.str i)) = false := rfl
@[simp] theorem isNone_list (i) : isNone (.d (.list i)) = false := rfl
@[simp] theorem isNone_tuple (i) : isNone (.d (.tuple i)) = false := rfl
@[simp] theorem isNone_tup (i) : isNone (.tup i) = false := rfl
@[simp] theorem isNone_ref (i) : isNone (.ref i) = false := rfl
@[simp] theorem cmp_isN (x : U) : cmpU O .is x (.d .none) T = some (isNone x) := rfl
@[simp] theorem cmp_notN (x : U) : cmpU O .isnot x (.d .none) T = some (!isNone x) := rfl
@[simp] theorem cmp_lt (i j : Int) : cmpU O .lt (.d (.int i)) (.d (.int j)) T = some (decide (i < j)) := rfl
@[simp] theorem cmp_le (i j : Int) : cmpU O .le (.d (.int i)) (.d (.int j)) T = some (decide (i ≤ j)) := rfl
@[simp] theorem cmp_gt (i j : Int) : cmpU O .gt (.d (.int i)) (.d (.int j)) T = some (decide (j < i)) := rfl
@[simp] theorem cmp_ge (i j : Int) : cmpU O .ge (.d (.int i)) (.d (.int j)) T = some (decide (j ≤ i)) := rfl
@[simp] theorem cmp_eqI (i j : Int) : cmpU O .eq (.d (.int i)) (.d (.int j)) T = some (decide (i = j)) := by
  have h : ∀ k : Int, shp (.int k) = true := fun k => rfl
  show (if shp (.int i) && shp (.int j) then some (PyData.eqv (.int i) (.int j)) else none) = _
  rw [h, h]
  rfl
@[simp] theorem cmp_neI (i j : Int) : cmpU O .ne (.d (.int i)) (.d (.int j)) T = some (!decide (i = j)) := by
  have h : ∀ k : Int, shp (.int k) = true := fun k => rfl
  show (if shp (.int i) && shp (.int j) then some (!PyData.eqv (.int i) (.int j)) else none) = _
  rw [h, h]
  rfl
@[simp] theorem sizeOk_iff (k : Nat) : sizeOk k = decide (k ≤ 1000000) := rfl
@[simp] theorem mtTy_append : mtTy .append = .list := rfl
@[simp] theorem mtTy_pop : mtTy .pop = .list := rfl
@[simp] theorem tyU_int (i) : tyU O T (.d (.int i)) = some .int := rfl
@[simp] theorem tyU_bool (i) : tyU O T (.d (.bool i)) = some .bool := rfl
@[simp] theorem tyU_none : tyU O T (.d .none) = some .non := rfl
@[simp] theorem tyU_str (i) : tyU O T (.d (.str i)) = some .str := rfl
@[simp] theorem tyU_list (i) : tyU O T (.d (.list i)) = some .list := rfl
@[simp] theorem tyU_tuple (i) : tyU O T (.d (.tuple i)) = some .tuple := rfl
@[simp] theorem tyU_tup (i) : tyU O T (.tup i) = some .tuple := rfl
@[simp] theorem isB_eq (t : Ty) (x : U) : isB O T t x = match tyU O T x with
  | some a => .ok (.d (.bool (decide (a = t) || (decide (a = .bool) && decide (t = .int))))) T
  | none => .fail := rfl
@[simp] theorem biU_len (l us) : biU O l .len us T = one us (lenB O T) := rfl
@[simp] theorem biU_list (l us) : biU O l .list us T = one us (listB O l T) := rfl
@[simp] theorem biU_tuple (l us) : biU O l .tuple us T = one us (tupleB O T) := rfl
@[simp] theorem biU_int (l us) : biU O l .int us T = one us (intB T) := rfl
@[simp] theorem biU_abs (l us) : biU O l .abs us T = one us (absB T) := rfl
@[simp] theorem biU_sum (l us) : biU O l .sum us T = one us (sumB O T) := rfl
@[simp] theorem biU_all (l us) : biU O l .all us T = one us (allB O T) := rfl
@[simp] theorem biU_any (l us) : biU O l .any us T = one us (anyB O T) := rfl
@[simp] theorem biU_str (l us) : biU O l .str us T = one us (strB T) := rfl
@[simp] theorem biU_isint (l us) : biU O l .isint us T = one us (isB O T .int) := rfl
@[simp] theorem biU_isbool (l us) : biU O l .isbool us T = one us (isB O T .bool) := rfl
@[simp] theorem biU_isstr (l us) : biU O l .isstr us T = one us (isB O T .str) := rfl
@[simp] theorem biU_islist (l us) : biU O l .islist us T = one us (isB O T .list) := rfl
@[simp] theorem biU_istuple (l us) : biU O l .istuple us T = one us (isB O T .tuple) := rfl
@[simp] theorem biU_isdict (l us) : biU O l .isdict us T = one us (isB O T .dict) := rfl
@[simp] theorem lenB_L (ds : List D) : lenB O T (.d (.list ds)) = .ok (.d (.int ds.length)) T := by
  show R.ok (U.d (.int (ds.map U.d).length)) T = _
  rw [List.length_map]
@[simp] theorem lenB_T (ds : List D) : lenB O T (.d (.tuple ds)) = .ok (.d (.int ds.length)) T := by
  show R.ok (U.d (.int (ds.map U.d).length)) T = _
  rw [List.length_map]
@[simp] theorem lenB_S (s : Str) : lenB O T (.d (.str s)) = if sizeOk s.length then .ok (.d (.int s.length)) T else .fail := rfl
@[simp] theorem listB_L (l) (ds : List D) : listB O l T (.d (.list ds)) = mkL O l (ds.map .d) T := rfl
@[simp] theorem listB_T (l) (ds : List D) : listB O l T (.d (.tuple ds)) = mkL O l (ds.map .d) T := rfl
@[simp] theorem tupleB_L (ds : List D) : tupleB O T (.d (.list ds)) = .ok (.d (.tuple ds)) T := by
  show R.ok (mkT (ds.map U.d)) T = _
  rw [mkT_map]
@[simp] theorem tupleB_T (ds : List D) : tupleB O T (.d (.tuple ds)) = .ok (.d (.tuple ds)) T := rfl
@[simp] theorem ixU_L (ds : List D) (i : Int) : ixU O (.d (.list ds)) (.d (.int i)) T = (L2.atI ds i).map .d := rfl
@[simp] theorem ixU_T (ds : List D) (i : Int) : ixU O (.d (.tuple ds)) (.d (.int i)) T = (L2.atI ds i).map .d := rfl
@[simp] theorem allD_app : ∀ (a b : List U), allD (a ++ b) = (allD a).bind fun x => (allD b).map (x ++ ·)
  | [], b => by cases h : allD b <;> simp [allD, h]
  | .d x :: r, b => by
    rw [List.cons_append, allD, allD, allD_app r b]
    cases allD r <;> cases allD b <;> simp
  | .ref _ :: r, b => rfl
  | .tup _ :: r, b => rfl
@[simp] theorem allD_comp {α : Type} (f : α → D) (xs : List α) : allD (xs.map (U.d ∘ f)) = some (xs.map f) := allD_map' f xs
@[simp] theorem mkT_comp {α : Type} (f : α → D) (xs : List α) : mkT (xs.map (U.d ∘ f)) = .d (.tuple (xs.map f)) := by unfold mkT; simp
@[simp] theorem cellOf_comp {α : Type} (f : α → D) (xs : List α) : cellOf (xs.map (U.d ∘ f)) = .lst (xs.map f) := by unfold cellOf; simp
end
section
variable {C : Cn} {O T : Cs}
/-- a pure call that gives a tree -/
theorem callP_d {f us x T'} (h : C.call (O ++ T) f us [] = .ok (.d x) T') : callP C O f us T = .ok (.d x) T := by
  unfold callP
  rw [h]
theorem callP_r {G : Pg} {n f : Nat} {us : List U} {x : D} {T' : Cs} (O T : Cs) (h : Y.run G n (O ++ T) f us [] = .ok (.d x) T') : callP (cn G n) O f us T = .ok (.d x) T := callP_d (C := cn G n) h
/-- .. a list of its own -/
theorem callP_l {f us i ds T'} (h : C.call (O ++ T) f us [] = .ok (.ref i) T') (hi : O.length + T.length ≤ i) (hc : getC (O ++ T) T' i = some (.lst ds)) : callP C O f us T = .ok (.d (.list ds)) T := by
  unfold callP
  rw [h]
  simp only [if_pos hi, hc]
end
end Y

set_option Elab.async false
set_option linter.all false
set_option maxRecDepth 100000
set_option maxHeartbeats 1000000
namespace Y
open PySem
abbrev PS' := Rho → Cs → Prop
def Wp (r : F) (nx bk ct : Rho → Cs → Prop) (rt : U → Cs → Prop) : Prop := match r with
  | .nx ρ T => nx ρ T
  | .rt u T => rt u T
  | .bk ρ T => bk ρ T
  | .ct ρ T => ct ρ T
  | _ => False
def brF (o : Option Bool) (a b : F) : F := match o with
  | some true => a
  | some false => b
  | none => .fail
@[simp] theorem brF_t (a b : F) : brF (some true) a b = a := rfl
@[simp] theorem brF_f (a b : F) : brF (some false) a b = b := rfl
@[simp] theorem brF_d (p : Prop) [Decidable p] (a b : F) : brF (some (decide p)) a b = if p then a else b := by
  by_cases h : p <;> simp [h]
@[simp] theorem brF_nd (p : Bool) (a b : F) : brF (some (!p)) a b = brF (some p) b a := by cases p <;> rfl
@[simp] theorem brF_b (p : Bool) (a b : F) : brF (some p) a b = if p = true then a else b := by cases p <;> rfl
def Kc (C : Cn) (O : Cs) (b : CB) (nx bk ct : Rho → Cs → Prop) (rt : U → Cs → Prop) (ρ : Rho) (T : Cs) : Prop := Wp (denB C O b ρ T) nx bk ct rt
section
variable {C : Cn} {O T : Cs} {ρ : Rho} {G : Pg} {n : Nat} {nx bk ct : Rho → Cs → Prop} {rt : U → Cs → Prop}
@[simp] theorem Kc_eq (b : CB) : Kc C O b nx bk ct rt ρ T = Wp (denB C O b ρ T) nx bk ct rt := rfl
@[simp] theorem wp_nx : Wp (.nx ρ T) nx bk ct rt = nx ρ T := rfl
@[simp] theorem wp_rt (u : U) : Wp (.rt u T) nx bk ct rt = rt u T := rfl
@[simp] theorem wp_bk : Wp (.bk ρ T) nx bk ct rt = bk ρ T := rfl
@[simp] theorem wp_ct : Wp (.ct ρ T) nx bk ct rt = ct ρ T := rfl
@[simp] theorem wp_if (p : Prop) [Decidable p] (a b : F) : Wp (if p then a else b) nx bk ct rt = ((p → Wp a nx bk ct rt) ∧ (¬ p → Wp b nx bk ct rt)) := by
  by_cases h : p <;> simp [h]
@[simp] theorem wp_nil : Wp (denB C O .nil ρ T) nx bk ct rt = nx ρ T := by rw [denB] <;> rfl
@[simp] theorem wp_cons (s : CS) (b : CB) : Wp (denB C O (.cons s b) ρ T) nx bk ct rt = Wp (denS C O s ρ T) (Kc C O b nx bk ct rt) bk ct rt := by
  rw [denB]
  cases denS C O s ρ T <;> rfl
@[simp] theorem wpS_asg (g e) : denS C O (.asg g e) ρ T = F.of ρ (den C O ρ e T) fun u T => match asgT O T g u ρ with
    | some ρ' => .nx ρ' T
    | none => .fail := by rw [denS] <;> rfl
@[simp] theorem wpS_ite (t a b) : denS C O (.ite t a b) ρ T = F.of ρ (den C O ρ t T) fun x T => brF (asB x) (denB C O a ρ T) (denB C O b ρ T) := by
  rw [denS]
  congr 1
@[simp] theorem brR_F (p : Prop) [Decidable p] (a b : R U) (k : U → Cs → F) : F.of ρ (if p then a else b) k = if p then F.of ρ a k else F.of ρ b k := by
  by_cases h : p <;> simp [h]
@[simp] theorem bind_if {α β : Type} (p : Prop) [Decidable p] (a b : R α) (k : α → Cs → R β) : (if p then a else b).bind k = if p then a.bind k else b.bind k := by
  by_cases h : p <;> simp [h]
/-- a for with an invariant -/
theorem wp_for {g : Tg} {it : IT} {b : CB} (its : Its) (T0 : Cs) (I : Nat → Rho → Cs → Prop) (e : denI C O ρ it T = .ok its T0) (h0 : I 0 ρ T0) (hw : ∀ i ρ T, I i ρ T → sameW O its.t T its.w = true)
    (h : ∀ i u, its.us[i]? = some u → ∀ ρ T, I i ρ T → ∃ ρ1, asgT O T g u ρ = some ρ1 ∧ Wp (denB C O b ρ1 T) (I (i + 1)) nx (I (i + 1)) rt) (hx : ∀ ρ T, I its.us.length ρ T → nx ρ T) : Wp (denS C O (.for_ g it b) ρ T) nx bk ct rt := by
  rw [denS, e]
  simp only
  suffices k : ∀ (us : List U) (i : Nat) (ρ : Rho) (T : Cs), its.us.drop i = us → i ≤ its.us.length → I i ρ T → Wp (loopF (fun u ρ T => match asgT O T g u ρ with
        | some ρ' => denB C O b ρ' T
        | none => .fail) (fun T' => sameW O its.t T' its.w) us ρ T) nx bk ct rt from k its.us 0 ρ T0 rfl (Nat.zero_le _) h0
  intro us
  induction us with
  | nil =>
    intro i ρ T hd hi hI
    have : its.us.length ≤ i := List.drop_eq_nil_iff.mp hd
    have e : i = its.us.length := by omega
    subst e
    rw [loopF, if_pos (hw _ _ _ hI)]
    exact hx _ _ hI
  | cons u us ih =>
    intro i ρ T hd hi hI
    have hlt : i < its.us.length := by
      rcases Nat.lt_or_ge i its.us.length with h | h
      · exact h
      · rw [List.drop_eq_nil_of_le h] at hd; cases hd
    have hu : its.us[i]? = some u := by
      rw [List.drop_eq_getElem_cons hlt] at hd
      rw [List.getElem?_eq_getElem hlt]
      cases hd; rfl
    have hd' : its.us.drop (i + 1) = us := by rw [List.drop_eq_getElem_cons hlt] at hd; cases hd; rfl
    obtain ⟨ρ1, e1, e2⟩ := h i u hu ρ T hI
    rw [loopF_c _ _ _ _ _ _ (hw _ _ _ hI)]
    simp only [e1]
    cases e3 : denB C O b ρ1 T with
    | nx ρ2 T2 => rw [e3] at e2; exact ih (i + 1) ρ2 T2 hd' hlt e2
    | ct ρ2 T2 => rw [e3] at e2; exact ih (i + 1) ρ2 T2 hd' hlt e2
    | bk ρ2 T2 => rw [e3] at e2; exact e2
    | rt u T2 => rw [e3] at e2; exact e2
    | exc => rw [e3] at e2; exact e2
    | fail => rw [e3] at e2; exact e2
/-- a while with an invariant: m goes down -/
theorem wp_wh {t : CE} {b : CB} {k : Nat} (I : Nat → Rho → Cs → Prop) (h0 : ∃ m, m < k ∧ I m ρ T) (h : ∀ m ρ T, I m ρ T → ∃ c T1, den C O ρ t T = .ok (.d (.bool c)) T1 ∧ if c = true then Wp (denB C O b ρ T1) (fun ρ T => ∃ m', m' < m ∧ I m' ρ T) nx (fun ρ T => ∃ m', m' < m ∧ I m' ρ T) rt else nx ρ T1) : Wp (denS C O (.wh k t b) ρ T) nx bk ct rt := by
  rw [denS]
  suffices q : ∀ (k : Nat) (m : Nat) (ρ : Rho) (T : Cs), m < k → I m ρ T → Wp (loopW (fun ρ T => den C O ρ t T) (fun ρ T => denB C O b ρ T) k ρ T) nx bk ct rt by
    obtain ⟨m, hm, hI⟩ := h0
    exact q k m ρ T hm hI
  intro k
  induction k with
  | zero => intro m ρ T hm; omega
  | succ k ih =>
    intro m ρ T hm hI
    rw [loopW_s]
    obtain ⟨c, T1, e1, e2⟩ := h m ρ T hI
    simp only [e1, F.of_ok, asB_bool]
    cases c with
    | false => rw [if_neg Bool.false_ne_true] at e2; exact e2
    | true =>
      rw [if_pos rfl] at e2
      simp only
      cases e3 : denB C O b ρ T1 with
      | nx ρ2 T2 => rw [e3] at e2; obtain ⟨m', h1, h2⟩ := e2; exact ih m' ρ2 T2 (by omega) h2
      | ct ρ2 T2 => rw [e3] at e2; obtain ⟨m', h1, h2⟩ := e2; exact ih m' ρ2 T2 (by omega) h2
      | bk ρ2 T2 => rw [e3] at e2; exact e2
      | rt u T2 => rw [e3] at e2; exact e2
      | exc => rw [e3] at e2; exact e2
      | fail => rw [e3] at e2; exact e2
/-- what a call gives -/
def Gv (r : R U) (P : U → Cs → Prop) : Prop := match r with
  | .ok u T => P u T
  | _ => False
theorem Gv.eq {r : R U} {u : U} {T : Cs} (h : Gv r fun u' T' => u' = u ∧ T' = T) : r = .ok u T := by
  cases r with
  | ok u' T' => obtain ⟨rfl, rfl⟩ := h; rfl
  | exc => exact h.elim
  | fail => exact h.elim
theorem Gv.ex {r : R U} {P : U → Cs → Prop} (h : Gv r P) : ∃ u T, r = .ok u T ∧ P u T := by
  cases r with
  | ok u' T' => exact ⟨_, _, rfl, h⟩
  | exc => exact h.elim
  | fail => exact h.elim
theorem run_wp {j np ns : Nat} {b : CB} {us : List U} {P : U → Cs → Prop} (hG : G.defs j = some ⟨np, ns, b⟩) (hl : us.length = np) (h : Wp (denB (cn G n) O b (us.map some ++ List.replicate (ns - us.length) none) T) (fun _ T' => P (.d .none) T') (fun _ _ => False) (fun _ _ => False) P) : Gv (Y.run G (n + 1) O j us T) P := by
  rw [run_S hG, bodyRun_eq hl]
  cases e : denB (cn G n) O b (us.map some ++ List.replicate (ns - us.length) none) T with
  | nx ρ T' => rw [e] at h; exact h
  | rt u T' => rw [e] at h; exact h
  | bk ρ T' => rw [e] at h; exact h.elim
  | ct ρ T' => rw [e] at h; exact h.elim
  | exc => rw [e] at h; exact h.elim
  | fail => rw [e] at h; exact h.elim
end
mutual
theorem beqD_r : ∀ a : Y.D, beqD a a = true
  | .none => rfl
  | .bool b => by simp [beqD]
  | .int b => by simp [beqD]
  | .str b => by simp [beqD]
  | .list b => by simp [beqD, beqDs_r b]
  | .tuple b => by simp [beqD, beqDs_r b]
  | .dict b => by simp [beqD, beqDp_r b]
theorem beqDp_r : ∀ a : List (Y.D × Y.D), beqDp a a = true
  | [] => rfl
  | (a, x) :: r => by simp [beqDp, beqD_r a, beqD_r x, beqDp_r r]
theorem beqDs_r : ∀ a : List Y.D, beqDs a a = true
  | [] => rfl
  | a :: r => by simp [beqDs, beqD_r a, beqDs_r r]
end
mutual
theorem beqU_r : ∀ a : U, beqU a a = true
  | .d x => by simp [beqU, beqD_r]
  | .ref i => by simp [beqU]
  | .tup us => by simp [beqU, beqUs_r us]
theorem beqUs_r : ∀ a : List U, beqUs a a = true
  | [] => rfl
  | a :: r => by simp [beqUs, beqU_r a, beqUs_r r]
end
theorem beqDk_r : ∀ a : List (Ky × Y.D), beqDk a a = true
  | [] => rfl
  | (k, x) :: r => by simp [beqDk, beqD_r, beqDk_r r]
theorem beqUk_r : ∀ a : List (Ky × U), beqUk a a = true
  | [] => rfl
  | (k, x) :: r => by simp [beqUk, beqU_r, beqUk_r r]
theorem beqFs_r : ∀ a : List (Str × U), beqFs a a = true
  | [] => rfl
  | (k, x) :: r => by simp [beqFs, beqU_r, beqFs_r r]
theorem beqA_r : ∀ a : Cell, beqA a a = true
  | .lst ds => by simp [beqA, beqDs_r]
  | .lstU ds => by simp [beqA, beqUs_r]
  | .dct ds => by simp [beqA, beqDk_r]
  | .dctU ds => by simp [beqA, beqUk_r]
  | .ins c ds => by simp [beqA, beqFs_r]
  | .dead => rfl
theorem beqCs_r : ∀ a : Cs, beqCs a a = true
  | [] => rfl
  | a :: r => by simp [beqCs, beqA_r, beqCs_r r]
theorem sameW_refl {O T T' : Cs} {i : Nat} {c : Cell} (h : getC O T i = some c) (h' : getC O T' i = some c) (hl : (∃ ds, c = .lst ds) ∨ (∃ us, c = .lstU us) ∨ (∃ k, c = .dct k) ∨ ∃ k, c = .dctU k) : sameW O T T' (some i) = true := by
  unfold sameW
  simp only [h, h']
  rcases hl with ⟨x, rfl⟩ | ⟨x, rfl⟩ | ⟨x, rfl⟩ | ⟨x, rfl⟩
  · exact beqDs_r x
  · exact beqUs_r x
  · exact beqDk_r x
  · exact beqUk_r x
theorem getC_app {O T S : Cs} {i : Nat} {c : Cell} (h : getC O T i = some c) : getC O (T ++ S) i = some c := by
  rw [getC_eq] at h ⊢
  rw [← List.append_assoc, List.getElem?_append_left (List.getElem?_eq_some_iff.mp h).1]
  exact h
section
variable {C : Cn} {O T : Cs} {ρ : Rho} {elt t : CE} {g : Tg} {it : IT} {own : List Nat} {us : List U} {w : Option Nat} {tt : Cs}
/-- one turn of a comprehension -/
def Turn1 (C : Cn) (O : Cs) (ρ : Rho) (elt t : CE) (g : Tg) (own : List Nat) (T1 : Cs) (u : U) (r : Option U) : Prop :=
  ∃ ρ1, asgT O T1 g u (wipeR ρ own) = some ρ1 ∧ match r with
    | some y => den C O ρ1 t T1 = .ok (.d (.bool true)) T1 ∧ den C O ρ1 elt T1 = .ok y T1
    | none => den C O ρ1 t T1 = .ok (.d (.bool false)) T1
theorem comp_run (f : U → Option U) (hw : ∀ acc, sameW O tt (T ++ [.lstU acc]) w = true) (h : ∀ u ∈ us, ∀ acc, Turn1 C O ρ elt t g own (T ++ [.lstU acc]) u (f u)) (hl : us.length ≤ 1000000) :
    compC (fun u T => match asgT O T g u (wipeR ρ own) with
        | some ρ' => (den C O ρ' t T).bind fun b T => brB (asB b) ((den C O ρ' elt T).bind fun y T => .ok (some y) T) (.ok none T)
        | none => .fail) (fun T' => sameW O tt T' w) T.length us (T ++ [.lstU []]) = .ok () (T ++ [.lstU (us.filterMap f)]) := by
  suffices k : ∀ (vs : List U) (acc : List U), acc.length + vs.length ≤ 1000000 → (∀ u ∈ vs, u ∈ us) → compC (fun u T => match asgT O T g u (wipeR ρ own) with
        | some ρ' => (den C O ρ' t T).bind fun b T => brB (asB b) ((den C O ρ' elt T).bind fun y T => .ok (some y) T) (.ok none T)
        | none => .fail) (fun T' => sameW O tt T' w) T.length vs (T ++ [.lstU acc]) = .ok () (T ++ [.lstU (acc ++ vs.filterMap f)]) by
    have := k us [] (by simpa using hl) (fun _ h => h)
    simpa using this
  intro vs
  induction vs with
  | nil =>
    intro acc _ _
    rw [compC, if_pos (hw acc)]
    simp
  | cons v vs ih =>
    intro acc hz hs
    rw [compC, if_pos (hw acc)]
    obtain ⟨ρ1, e1, e2⟩ := h v (hs v List.mem_cons_self) acc
    simp only [e1]
    cases ef : f v with
    | none =>
      rw [ef] at e2
      have e2 : den C O ρ1 t (T ++ [.lstU acc]) = .ok (.d (.bool false)) (T ++ [.lstU acc]) := e2
      simp only [e2, R.bind_ok, asB_bool, brB_f, putC]
      rw [ih acc (by simp at hz; omega) (fun u hu => hs u (List.mem_cons_of_mem _ hu))]
      simp [ef]
    | some y =>
      rw [ef] at e2
      have e3 : den C O ρ1 t (T ++ [.lstU acc]) = .ok (.d (.bool true)) (T ++ [.lstU acc]) := e2.1
      have e4 : den C O ρ1 elt (T ++ [.lstU acc]) = .ok y (T ++ [.lstU acc]) := e2.2
      simp only [e3, e4, R.bind_ok, asB_bool, brB_t, putC]
      have e5 : (T ++ [Cell.lstU acc])[T.length]? = some (.lstU acc) := by simp
      simp only [e5]
      rw [if_pos (by simp at hz ⊢; omega)]
      simp only [R.bind_ok]
      have e6 : (T ++ [Cell.lstU acc]).set T.length (.lstU (acc ++ [y])) = T ++ [.lstU (acc ++ [y])] := by
        rw [List.set_append_right (h := Nat.le_refl _)]
        simp
      rw [e6, ih (acc ++ [y]) (by simp at hz ⊢; omega) (fun u hu => hs u (List.mem_cons_of_mem _ hu))]
      simp [ef]
/-- a comprehension that gives a tree -/
theorem comp_d (f : U → Option U) {ds : List Y.D} (he : denI C O ρ it T = .ok ⟨us, w, tt⟩ T) (hw : ∀ acc, sameW O tt (T ++ [.lstU acc]) w = true) (h : ∀ u ∈ us, ∀ acc, Turn1 C O ρ elt t g own (T ++ [.lstU acc]) u (f u)) (hl : us.length ≤ 1000000) (hd : us.filterMap f = ds.map .d) :
    den C O ρ (.comp false elt g it t own) T = .ok (.d (.list ds)) T := by
  rw [den, he, R.bind_ok]
  refine (congrArg (fun r : R Unit => r.bind fun _ T' => compE O false T T') (comp_run f hw h hl)).trans ?_
  show compE O false T _ = _
  unfold compE
  have e5 : (T ++ [Cell.lstU (us.filterMap f)])[T.length]? = some (.lstU (us.filterMap f)) := by simp
  simp only [e5, hd, allD_map]
  simp [beqCs_r]
/-- .. a cell of its own -/
theorem comp_l (f : U → Option U) (he : denI C O ρ it T = .ok ⟨us, w, tt⟩ T) (hw : ∀ acc, sameW O tt (T ++ [.lstU acc]) w = true) (h : ∀ u ∈ us, ∀ acc, Turn1 C O ρ elt t g own (T ++ [.lstU acc]) u (f u)) (hl : us.length ≤ 1000000) :
    den C O ρ (.comp true elt g it t own) T = .ok (.ref (O.length + T.length)) (T ++ [cellOf (us.filterMap f)]) := by
  rw [den, he, R.bind_ok]
  refine (congrArg (fun r : R Unit => r.bind fun _ T' => compE O true T T') (comp_run f hw h hl)).trans ?_
  show compE O true T _ = _
  unfold compE
  have e5 : (T ++ [Cell.lstU (us.filterMap f)])[T.length]? = some (.lstU (us.filterMap f)) := by simp
  simp only [e5]
  simp
end
end Y

set_option Elab.async false
set_option linter.all false
set_option maxRecDepth 100000
set_option maxHeartbeats 1000000
namespace Y
open PySem
theorem bitAnd_n (a b : Nat) : Builtin.bitAnd (a : Int) (b : Int) = ((a &&& b : Nat) : Int) := by
  unfold Builtin.bitAnd
  simp
theorem bitOr_n (a b : Nat) : Builtin.bitOr (a : Int) (b : Int) = ((a ||| b : Nat) : Int) := by
  unfold Builtin.bitOr Builtin.bitAnd Builtin.bitNot
  have h1 : ¬ (0 ≤ -(a : Int) - 1) := by omega
  have h2 : ¬ (0 ≤ -(b : Int) - 1) := by omega
  simp only [h1, h2, decide_false]
  have e1 : (-(-(a : Int) - 1) - 1).toNat = a := by omega
  have e2 : (-(-(b : Int) - 1) - 1).toNat = b := by omega
  rw [e1, e2]
  omega
theorem bit_iff (m i : Nat) : Builtin.bitAnd ((m : Int) / 2 ^ i) 1 = 1 ↔ m.testBit i = true := by
  rw [PyProof.Rows.bitAnd_m1, Nat.testBit_eq_decide_div_mod_eq, decide_eq_true_eq]
  have : ((m : Int) / 2 ^ i) % 2 = (((m / 2 ^ i) % 2 : Nat) : Int) := by
    simp
  rw [this]
  omega
theorem div_iff (m i : Nat) : ((m : Int) / ((2 ^ i : Nat) : Int)) % 2 = 1 ↔ m.testBit i = true := by
  rw [Nat.testBit_eq_decide_div_mod_eq, decide_eq_true_eq]
  have : ((m : Int) / ((2 ^ i : Nat) : Int)) % 2 = (((m / 2 ^ i) % 2 : Nat) : Int) := by
    simp
  rw [this]
  omega
theorem bitXor_n (a b : Nat) : Builtin.bitXor (a : Int) (b : Int) = ((a ^^^ b : Nat) : Int) := by
  unfold Builtin.bitXor
  rw [bitOr_n, bitAnd_n]
  have h : (a ||| b) = (a ^^^ b) + (a &&& b) := by
    have h1 : (a ^^^ b) &&& (a &&& b) = 0 := by
      apply Nat.eq_of_testBit_eq
      intro i
      simp only [Nat.testBit_and, Nat.testBit_xor, Nat.testBit_or, Nat.zero_testBit]
      cases a.testBit i <;> cases b.testBit i <;> rfl
    have h2 : (a ||| b) = (a ^^^ b) ||| (a &&& b) := by
      apply Nat.eq_of_testBit_eq
      intro i
      simp only [Nat.testBit_and, Nat.testBit_xor, Nat.testBit_or, Nat.zero_testBit]
      cases a.testBit i <;> cases b.testBit i <;> rfl
    rw [h2]
    exact or_add _ _ h1
  omega
where
  or_add : ∀ (x y : Nat), x &&& y = 0 → x ||| y = x + y := by
    intro x
    induction x using Nat.strongRecOn with
    | _ x ih =>
      intro y h
      by_cases hx : x = 0
      · subst hx; simp
      · have hd := ih (x / 2) (by omega) (y / 2) (by rw [← Nat.and_div_two, h])
        have hm : (x ||| y) / 2 = x / 2 ||| y / 2 := Nat.or_div_two
        have h0 : (x ||| y) % 2 = x % 2 + y % 2 := by
          have e : (x &&& y) % 2 = 0 := by rw [h] <;> rfl
          have e1 := Nat.and_mod_two_pow (a := x) (b := y) (n := 1)
          have e2 := Nat.or_mod_two_pow (a := x) (b := y) (n := 1)
          simp only [Nat.pow_one] at e1 e2
          rw [e] at e1
          rw [e2]
          have a1 : x % 2 = 0 ∨ x % 2 = 1 := by omega
          have a2 : y % 2 = 0 ∨ y % 2 = 1 := by omega
          rcases a1 with a1 | a1 <;> rcases a2 with a2 | a2 <;> rw [a1, a2] at e1 ⊢ <;> simp at e1 ⊢
        omega
/-- what a mask leads to by a table -/
def imgF (m : Nat) (acc : Nat) (p : Nat × Nat) : Nat := if m.testBit p.2 then acc ||| p.1 else acc
def img (tb : List Nat) (m : Nat) : Nat := tb.zipIdx.foldl (imgF m) 0
theorem imgF_bit (m j : Nat) : ∀ (ps : List (Nat × Nat)) (acc : Nat), (ps.foldl (imgF m) acc).testBit j = (acc.testBit j || ps.any fun p => m.testBit p.2 && p.1.testBit j)
  | [], acc => by simp
  | p :: ps, acc => by
    rw [List.foldl_cons, imgF_bit m j ps, List.any_cons]
    unfold imgF
    cases h : m.testBit p.2 with
    | false => simp
    | true => simp [Bool.or_assoc]
theorem img_bit (tb : List Nat) (m j : Nat) : (img tb m).testBit j = tb.zipIdx.any fun p => m.testBit p.2 && p.1.testBit j := by
  unfold img
  rw [imgF_bit]
  simp
theorem img_iff (tb : List Nat) (m j : Nat) : (img tb m).testBit j = true ↔ ∃ i r, tb[i]? = some r ∧ m.testBit i = true ∧ r.testBit j = true := by
  rw [img_bit, List.any_eq_true]
  constructor
  · rintro ⟨⟨r, i⟩, h1, h2⟩
    rw [List.mem_zipIdx_iff_getElem?] at h1
    simp only [Bool.and_eq_true] at h2
    exact ⟨i, r, h1, h2.1, h2.2⟩
  · rintro ⟨i, r, h1, h2, h3⟩
    exact ⟨(r, i), by rw [List.mem_zipIdx_iff_getElem?]; exact h1, by simp [h2, h3]⟩
theorem eq_bits {a b : Nat} (h : ∀ j, a.testBit j = true ↔ b.testBit j = true) : a = b := by
  apply Nat.eq_of_testBit_eq
  intro j
  have := h j
  cases e : a.testBit j <;> cases e' : b.testBit j <;> simp_all
theorem img_then (t1 t2 : List Nat) (m : Nat) : img (t1.map (img t2)) m = img t2 (img t1 m) := by
  apply eq_bits
  intro j
  rw [img_iff, img_iff]
  constructor
  · rintro ⟨i, r, h1, h2, h3⟩
    rw [List.getElem?_map, Option.map_eq_some_iff] at h1
    obtain ⟨q, h1, rfl⟩ := h1
    rw [img_iff] at h3
    obtain ⟨k, s, h4, h5, h6⟩ := h3
    exact ⟨k, s, h4, (img_iff _ _ _).mpr ⟨i, q, h1, h2, h5⟩, h6⟩
  · rintro ⟨k, s, h4, h5, h6⟩
    rw [img_iff] at h5
    obtain ⟨i, q, h1, h2, h5⟩ := h5
    exact ⟨i, _, by rw [List.getElem?_map, h1]; rfl, h2, (img_iff _ _ _).mpr ⟨k, s, h4, h5, h6⟩⟩
def sameT (n : Nat) : List Nat := (List.range n).map (2 ^ ·)
theorem sameT_get {n i r : Nat} : (sameT n)[i]? = some r ↔ i < n ∧ r = 2 ^ i := by
  unfold sameT
  rw [List.getElem?_map]
  by_cases h : i < n
  · rw [List.getElem?_range h]
    simp [h, eq_comm]
  · rw [List.getElem?_eq_none (by simp; omega)]
    simp [h]
theorem img_same (n m : Nat) : img (sameT n) m = m % 2 ^ n := by
  apply eq_bits
  intro j
  rw [img_iff, Nat.testBit_mod_two_pow]
  simp only [Bool.and_eq_true, decide_eq_true_eq]
  constructor
  · rintro ⟨i, r, h1, h2, h3⟩
    rw [sameT_get] at h1
    obtain ⟨h1, rfl⟩ := h1
    rw [Nat.testBit_two_pow, decide_eq_true_eq] at h3
    subst h3
    exact ⟨h1, h2⟩
  · rintro ⟨h1, h2⟩
    exact ⟨j, 2 ^ j, sameT_get.mpr ⟨h1, rfl⟩, h2, by rw [Nat.testBit_two_pow]; simp⟩
theorem bit_lt {m k : Nat} (h : ∀ j, k ≤ j → m.testBit j = false) : m < 2 ^ k := by
  apply Nat.lt_pow_two_of_testBit
  intro j hj
  exact h j hj
theorem img_lt {tb : List Nat} {m : Nat} (h : ∀ r ∈ tb, r < 64) : img tb m < 64 := by
  have : img tb m < 2 ^ 6 := by
    refine bit_lt fun j hj => ?_
    cases e : (img tb m).testBit j with
    | false => rfl
    | true =>
      rw [img_iff] at e
      obtain ⟨i, r, h1, h2, h3⟩ := e
      have hr := h r (List.mem_of_getElem? h1)
      have : r.testBit j = false := Nat.testBit_lt_two_pow (Nat.lt_of_lt_of_le hr (by show 2 ^ 6 ≤ 2 ^ j; exact Nat.pow_le_pow_right (by decide) hj))
      rw [this] at h3
      cases h3
  exact this
theorem img_one {tb : List Nat} {i r : Nat} (h : tb[i]? = some r) : img tb (2 ^ i) = r := by
  apply eq_bits
  intro j
  rw [img_iff]
  constructor
  · rintro ⟨k, s, h1, h2, h3⟩
    rw [Nat.testBit_two_pow, decide_eq_true_eq] at h2
    subst h2
    rw [h] at h1
    cases h1
    exact h3
  · intro h3
    exact ⟨i, r, h, by rw [Nat.testBit_two_pow]; simp, h3⟩
theorem sameT_then (t : List Nat) (f : Nat → Nat) : (sameT t.length).map (fun m => f (img t m)) = t.map f := by
  apply List.ext_getElem?
  intro i
  rw [List.getElem?_map, List.getElem?_map]
  by_cases h : i < t.length
  · have e : (sameT t.length)[i]? = some (2 ^ i) := sameT_get.mpr ⟨h, rfl⟩
    rw [e, List.getElem?_eq_getElem h]
    simp only [Option.map_some]
    rw [img_one (List.getElem?_eq_getElem h)]
  · rw [List.getElem?_eq_none (by unfold sameT; simp; omega), List.getElem?_eq_none (by omega)] <;> rfl
/-- tables gone one after another -/
def imgs (ts : List (List Nat)) (m : Nat) : Nat := ts.foldl (fun m t => img t m) m
theorem left_eq (ts : List (List Nat)) : ∀ L : List Nat, ts.foldl (fun L t => L.map (img t)) L = L.map (imgs ts) := by
  induction ts with
  | nil =>
    intro L
    have : imgs [] = id := rfl
    rw [this]; simp
  | cons t ts ih =>
    intro L
    rw [List.foldl_cons, ih, List.map_map]
    rfl
def rightT (ts : List (List Nat)) : List Nat := ts.foldr (fun t R => t.map (img R)) (sameT 6)
theorem right_img (ts : List (List Nat)) (h : ∀ t ∈ ts, ∀ r ∈ t, r < 64) : ∀ m, m < 64 → img (rightT ts) m = imgs ts m := by
  induction ts with
  | nil =>
    intro m hm
    show img (sameT 6) m = m
    rw [img_same]
    omega
  | cons t ts ih =>
    intro m hm
    show img (t.map (img (rightT ts))) m = imgs ts (img t m)
    rw [img_then]
    exact ih (fun t' h' => h t' (List.mem_cons_of_mem _ h')) _ (img_lt (h t List.mem_cons_self))
theorem right_eq (t : List Nat) (ts : List (List Nat)) (h : ∀ t' ∈ t :: ts, ∀ r ∈ t', r < 64) : rightT (t :: ts) = t.map (imgs ts) := by
  show t.map (img (rightT ts)) = _
  apply List.map_congr_left
  intro r hr
  exact right_img ts (fun t' h' => h t' (List.mem_cons_of_mem _ h')) r (h t List.mem_cons_self r hr)
theorem left_right (t : List Nat) (ts : List (List Nat)) (h : ∀ t' ∈ t :: ts, ∀ r ∈ t', r < 64) : (t :: ts).foldl (fun L t => L.map (img t)) (sameT t.length) = rightT (t :: ts) := by
  rw [left_eq, right_eq t ts h]
  exact sameT_then t (imgs ts)
/-- whole numbers as trees -/
def nI (r : Nat) : D := .int (r : Int)
def nD (l : List Nat) : List D := l.map nI
@[simp] theorem nD_len (l : List Nat) : (nD l).length = l.length := by unfold nD; simp
@[simp] theorem nD_get (l : List Nat) (i : Nat) : (nD l)[i]? = (l[i]?).map nI := by unfold nD; rw [List.getElem?_map]
theorem nD_app (a b : List Nat) : nD (a ++ b) = nD a ++ nD b := by unfold nD; simp
mutual
def noB : D → Bool
  | .none => true
  | .int _ => true
  | .str _ => true
  | .list xs => noBs xs
  | .tuple xs => noBs xs
  | .bool _ => false
  | .dict _ => false
def noBs : List D → Bool
  | [] => true
  | x :: xs => noB x && noBs xs
end
mutual
theorem eqv_iff : ∀ (a b : D), noB a = true → noB b = true → (PyData.eqv a b = true ↔ a = b)
  | .none, b, _, hb => by cases b <;> simp [PyData.eqv, noB] at *
  | .int i, b, _, hb => by cases b <;> simp [PyData.eqv, noB] at *
  | .str i, b, _, hb => by cases b <;> simp [PyData.eqv, noB] at *
  | .list xs, b, ha, hb => by
    cases b with
    | list ys =>
      rw [noB] at ha hb
      rw [PyData.eqv, eqvs_iff xs ys ha hb]
      simp
    | _ => simp [PyData.eqv, noB] at *
  | .tuple xs, b, ha, hb => by
    cases b with
    | tuple ys =>
      rw [noB] at ha hb
      rw [PyData.eqv, eqvs_iff xs ys ha hb]
      simp
    | _ => simp [PyData.eqv, noB] at *
  | .bool _, b, ha, hb => by simp [noB] at ha
  | .dict _, b, ha, hb => by simp [noB] at ha
theorem eqvs_iff : ∀ (a b : List D), noBs a = true → noBs b = true → (PyData.eqvAll a b = true ↔ a = b)
  | [], b, _, hb => by cases b <;> simp [PyData.eqvAll]
  | x :: xs, b, ha, hb => by
    cases b with
    | nil => simp [PyData.eqvAll]
    | cons y ys =>
      rw [noBs, Bool.and_eq_true] at ha hb
      rw [PyData.eqvAll, Bool.and_eq_true, eqv_iff x y ha.1 hb.1, eqvs_iff xs ys ha.2 hb.2]
      simp
end
theorem eqv_dec {a b : D} [Decidable (a = b)] (ha : noB a = true) (hb : noB b = true) : PyData.eqv a b = decide (a = b) := by
  rw [Bool.eq_iff_iff, eqv_iff a b ha hb]
  simp
theorem noB_nD (l : List Nat) : noBs (nD l) = true := by
  induction l with
  | nil => rfl
  | cons a l ih => exact ih
theorem nD_inj {a b : List Nat} (h : nD a = nD b) : a = b := by
  induction a generalizing b with
  | nil => cases b with
    | nil => rfl
    | cons _ _ => simp [nD] at h
  | cons x xs ih => cases b with
    | nil => simp [nD] at h
    | cons y ys =>
      simp only [nD, nI, List.map_cons, List.cons.injEq, PyData.int.injEq] at h
      rw [ih h.2, Int.ofNat_inj.mp h.1]
def lay (k : Nat) (d : D) : Prop := d.canLay0 = true ∧ d.depth ≤ k
theorem lays {k : Nat} : ∀ {xs : List D}, (∀ x ∈ xs, lay k x) → PyData.canLayAll0 xs = true ∧ PyData.depthAll xs ≤ k
  | [], _ => ⟨rfl, Nat.zero_le _⟩
  | x :: xs, h => by
    have h1 := h x List.mem_cons_self
    have h2 := lays (fun y hy => h y (List.mem_cons_of_mem _ hy))
    rw [PyData.canLayAll0, PyData.depthAll, h1.1, h2.1]
    exact ⟨rfl, Nat.max_le.mpr ⟨h1.2, h2.2⟩⟩
theorem lay_tuple {k : Nat} {xs : List D} (h : ∀ x ∈ xs, lay k x) : lay (k + 1) (.tuple xs) := by
  have := lays h
  refine ⟨?_, ?_⟩
  · rw [PyData.canLay0]; exact this.1
  · rw [PyData.depth]; omega
theorem lay_list {k : Nat} {xs : List D} (h : ∀ x ∈ xs, lay k x) : lay (k + 1) (.list xs) := by
  have := lays h
  refine ⟨?_, ?_⟩
  · rw [PyData.canLay0]; exact this.1
  · rw [PyData.depth]; omega
theorem lay_int (i : Int) : lay 0 (.int i) := ⟨rfl, Nat.le_refl _⟩
theorem lay.shp {k : Nat} {d : D} (h : lay k d) (hk : k ≤ 64) : shp d = true := by
  show (d.canLay0 && decide (d.depth ≤ 64)) = true
  rw [h.1, decide_eq_true (Nat.le_trans h.2 hk)]
  rfl
theorem lay_nT (l : List Nat) : lay 1 (.tuple (nD l)) := lay_tuple fun x hx => by
  unfold nD at hx
  obtain ⟨r, _, rfl⟩ := List.mem_map.mp hx
  exact lay_int _
theorem lay_nL (l : List Nat) : lay 1 (.list (nD l)) := lay_list fun x hx => by
  unfold nD at hx
  obtain ⟨r, _, rfl⟩ := List.mem_map.mp hx
  exact lay_int _
theorem cmp_eqD {O T : Cs} {a b : D} [Decidable (a = b)] (ha : shp a = true) (hb : shp b = true) (na : noB a = true) (nb : noB b = true) : cmpU O .eq (.d a) (.d b) T = some (decide (a = b)) := by
  show (if shp a && shp b then some (PyData.eqv a b) else none) = _
  rw [ha, hb, eqv_dec na nb]
  rfl
theorem cmp_neD {O T : Cs} {a b : D} [Decidable (a = b)] (ha : shp a = true) (hb : shp b = true) (na : noB a = true) (nb : noB b = true) : cmpU O .ne (.d a) (.d b) T = some (!decide (a = b)) := by
  show (if shp a && shp b then some (!PyData.eqv a b) else none) = _
  rw [ha, hb, eqv_dec na nb]
  rfl
theorem cmp_eqT {O T : Cs} (a b : List Nat) : cmpU O .eq (.d (.tuple (nD a))) (.d (.tuple (nD b))) T = some (decide (a = b)) := by
  haveI : Decidable ((PyData.tuple (nD a)) = .tuple (nD b)) := decidable_of_iff (a = b) ⟨fun h => by rw [h], fun h => nD_inj (by injection h)⟩
  rw [cmp_eqD ((lay_nT a).shp (by decide)) ((lay_nT b).shp (by decide)) (noB_nD a) (noB_nD b)]
  have : (PyData.tuple (nD a) = PyData.tuple (nD b)) ↔ a = b := ⟨fun h => nD_inj (by injection h), fun h => by rw [h]⟩
  simp only [this]
theorem cmp_neT {O T : Cs} (a b : List Nat) : cmpU O .ne (.d (.tuple (nD a))) (.d (.tuple (nD b))) T = some (!decide (a = b)) := by
  haveI : Decidable ((PyData.tuple (nD a)) = .tuple (nD b)) := decidable_of_iff (a = b) ⟨fun h => by rw [h], fun h => nD_inj (by injection h)⟩
  rw [cmp_neD ((lay_nT a).shp (by decide)) ((lay_nT b).shp (by decide)) (noB_nD a) (noB_nD b)]
  have : (PyData.tuple (nD a) = PyData.tuple (nD b)) ↔ a = b := ⟨fun h => nD_inj (by injection h), fun h => by rw [h]⟩
  simp only [this]
theorem cut_map {α β : Type} (f : α → β) (xs : List α) (l h : Option Int) : cut (xs.map f) l h = (cut xs l h).map f := by
  unfold cut
  simp [List.map_take, List.map_drop]
@[simp] theorem slcU_L (O T : Cs) (b : Bool) (ds : List D) (l h : Option Int) : slcU O b (.d (.list ds)) l h T = mkL O b ((cut ds l h).map .d) T := by
  show mkL O b (cut (ds.map U.d) l h) T = _
  rw [cut_map]
@[simp] theorem slcU_T (O T : Cs) (b : Bool) (ds : List D) (l h : Option Int) : slcU O b (.d (.tuple ds)) l h T = .ok (.d (.tuple (cut ds l h))) T := by
  show R.ok (mkT (cut (ds.map U.d) l h)) T = _
  rw [cut_map, mkT_map]
theorem cut_to {α : Type} (xs : List α) (k : Int) (h : 0 ≤ k) : cut xs none (some k) = xs.take k.toNat := by
  unfold cut HT.sIx
  simp
  rw [if_neg (by omega)]
  omega
@[simp] theorem getC_0 (O T : Cs) : getC O T O.length = T[0]? := by unfold getC; simp
@[simp] theorem getC_k (O T : Cs) (k : Nat) : getC O T (O.length + k) = T[k]? := by
  unfold getC
  rw [if_neg (by omega)]
  congr 1
  omega
@[simp] theorem setC_0 (O T : Cs) (c : Cell) : setC O T O.length c = if 0 < T.length then .ok (.d .none) (T.set 0 c) else .fail := by
  unfold setC
  simp
@[simp] theorem setC_k (O T : Cs) (k : Nat) (c : Cell) : setC O T (O.length + k) c = if k < T.length then .ok (.d .none) (T.set k c) else .fail := by
  unfold setC
  have : O.length + k - O.length = k := by omega
  simp [this]
@[simp] theorem mtU_append (O T : Cs) (l : Bool) (r : Nat) (v : U) : mtU O l .append (.ref r) [v] T = appU O r v T := rfl
@[simp] theorem tyU_ref (O T : Cs) (i : Nat) : tyU O T (.ref i) = match getC O T i with
    | some (.lst _) | some (.lstU _) => some .list
    | some (.dct _) | some (.dctU _) => some .dict
    | _ => none := rfl
@[simp] theorem appU_eq (O T : Cs) (r : Nat) (v : U) : appU O r v T = match getC O T r with
  | some (.lst ds) => if sizeOk ds.length then match v with
    | .d x => setC O T r (.lst (ds ++ [x]))
    | v => setC O T r (.lstU (ds.map .d ++ [v]))
    else .fail
  | some (.lstU us) => if sizeOk us.length then setC O T r (.lstU (us ++ [v])) else .fail
  | _ => .fail := rfl
@[simp] theorem tupleB_ref (O T : Cs) (i : Nat) : tupleB O T (.ref i) = match seqL O T (.ref i) with
  | some us => .ok (mkT us) T
  | none => .fail := by
  unfold tupleB
  cases seqL O T (.ref i) <;> rfl
theorem mul_ok {i j : Int} (h : -18446744073709551616 < j ∧ j < 18446744073709551616) : mulOk i j = true := by
  unfold mulOk
  simp [h.1, h.2]
theorem mul_okL {i j : Int} (h : -18446744073709551616 < i ∧ i < 18446744073709551616) : mulOk i j = true := by
  unfold mulOk
  simp [h.1, h.2]
theorem atI_nat {α : Type} (xs : List α) (i : Int) (h : 0 ≤ i) (h2 : i < xs.length) : L2.atI xs i = xs[i.toNat]? := by
  unfold L2.atI L2.ixN
  simp [h, h2]
end Y

set_option Elab.async false
set_option linter.all false
set_option maxRecDepth 100000
set_option maxHeartbeats 1000000
namespace Y
open PySem
theorem putK_len {α : Type} (kvs : List (Ky × α)) (k : Ky) (v : α) : (putK kvs k v).length ≤ kvs.length + 1 := by
  unfold putK
  split <;> simp
theorem putK_mem {α : Type} {kvs : List (Ky × α)} {k : Ky} {v : α} {p : Ky × α} (h : p ∈ putK kvs k v) : p ∈ kvs ∨ p = (k, v) := by
  unfold putK at h
  split at h
  · rw [List.mem_map] at h
    obtain ⟨q, hq, rfl⟩ := h
    split
    · rename_i e; right; rw [e]
    · left; exact hq
  · rw [List.mem_append] at h
    rcases h with h | h
    · exact .inl h
    · simp at h; exact .inr h
theorem lookK_mem {α : Type} {kvs : List (Ky × α)} {k : Ky} {v : α} (h : lookK kvs k = some v) : (k, v) ∈ kvs := by
  unfold lookK at h
  rw [Option.map_eq_some_iff] at h
  obtain ⟨p, hp, rfl⟩ := h
  have h1 := List.mem_of_find?_eq_some hp
  have h2 := List.find?_some hp
  simp at h2
  rw [← h2]
  exact h1
theorem lookK_put {α : Type} (kvs : List (Ky × α)) (k k' : Ky) (v : α) : lookK (putK kvs k v) k' = if k' = k then some v else lookK kvs k' := by
  unfold putK
  by_cases ha : (kvs.any fun p => decide (p.1 = k)) = true
  · rw [if_pos ha]
    induction kvs with
    | nil => simp at ha
    | cons p kvs ih =>
      unfold lookK at ih ⊢
      simp only [List.map_cons]
      by_cases h1 : p.1 = k
      · rw [if_pos h1]
        by_cases h2 : k' = k
        · subst h2
          simp [h1]
        · rw [if_neg h2]
          have h3 : ¬ p.1 = k' := fun e => h2 (by rw [← e, h1])
          simp only [List.find?_cons, h3, decide_false]
          by_cases hb : (kvs.any fun p => decide (p.1 = k)) = true
          · have := ih hb
            rw [if_neg h2] at this
            exact this
          · have e : (kvs.map fun p => if p.1 = k then (p.1, v) else p) = kvs := by
              conv => rhs; rw [← List.map_id kvs]
              refine List.map_congr_left fun q hq => ?_
              rw [if_neg]
              · rfl
              · intro e
                apply hb
                rw [List.any_eq_true]
                exact ⟨q, hq, by simp [e]⟩
            rw [e]
      · rw [if_neg h1]
        have hb : (kvs.any fun p => decide (p.1 = k)) = true := by
          simpa [h1] using ha
        by_cases h3 : p.1 = k'
        · have h2 : ¬ k' = k := fun e => h1 (by rw [h3, e])
          rw [if_neg h2]
          simp [h3]
        · have := ih hb
          simp only [List.find?_cons, h3, decide_false]
          exact this
  · rw [if_neg ha]
    have hk : ∀ q ∈ kvs, ¬ q.1 = k := by
      intro q hq e
      apply ha
      rw [List.any_eq_true]
      exact ⟨q, hq, by simp [e]⟩
    clear ha
    induction kvs with
    | nil =>
      unfold lookK
      by_cases h2 : k = k'
      · subst h2; simp
      · have : ¬ k' = k := fun e => h2 e.symm
        simp [h2, this]
    | cons p kvs ih =>
      unfold lookK at ih ⊢
      have h1 := hk p List.mem_cons_self
      by_cases h3 : p.1 = k'
      · have h2 : ¬ k' = k := fun e => h1 (by rw [h3, e])
        simp [h3, h2]
      · have := ih fun q hq => hk q (List.mem_cons_of_mem _ hq)
        simp only [List.cons_append, List.find?_cons, h3, decide_false]
        exact this
theorem nD_any (F : List Nat) (w : Int) : ((nD F).any fun z => PyData.eqv z (.int w)) = decide (∃ f ∈ F, (f : Int) = w) := by
  rw [Bool.eq_iff_iff, List.any_eq_true, decide_eq_true_eq]
  constructor
  · rintro ⟨z, hz, e⟩
    simp only [nD, nI, List.map_map, List.mem_map, Function.comp] at hz
    obtain ⟨f, hf, rfl⟩ := hz
    exact ⟨f, hf, by simpa [PyData.eqv] using e⟩
  · rintro ⟨f, hf, e⟩
    refine ⟨.int (f : Int), by simp only [nD, nI, List.map_map, List.mem_map, Function.comp]; exact ⟨f, hf, rfl⟩, by simp [PyData.eqv, e]⟩
theorem isin_nL {O T : Cs} (F : List Nat) (w : Int) : cmpU O .isin (.d (.int w)) (.d (.list (nD F))) T = some (decide (∃ f ∈ F, (f : Int) = w)) := by
  show (if shp (.int w) && shp (.list (nD F)) then some ((nD F).any fun z => PyData.eqv z (.int w)) else none) = _
  rw [(lay_int w).shp (by decide), (lay_nL F).shp (by decide), nD_any]
  rfl
theorem notin_nL {O T : Cs} (F : List Nat) (w : Int) : cmpU O .notin (.d (.int w)) (.d (.list (nD F))) T = some (!decide (∃ f ∈ F, (f : Int) = w)) := by
  show (cmpU.isinU O (.d (.int w)) (.d (.list (nD F))) T).map (!·) = _
  have := isin_nL (O := O) (T := T) F w
  rw [show cmpU O .isin (.d (.int w)) (.d (.list (nD F))) T = cmpU.isinU O (.d (.int w)) (.d (.list (nD F))) T from rfl] at this
  rw [this] <;> rfl
theorem dictOf_0 {O T : Cs} {kvs : List (Ky × D)} : dictOf O (.dct kvs :: T) (.ref O.length) = some (kvs.map fun p => (p.1, .d p.2)) := by
  unfold dictOf
  simp
theorem lookK_d (kvs : List (Ky × D)) (k : Ky) : lookK (kvs.map fun p => (p.1, U.d p.2)) k = (lookK kvs k).map .d := by
  unfold lookK
  rw [List.find?_map, Option.map_map, Option.map_map]
  rfl
theorem pickS_map {α β : Type} (f : α → β) (lo : Option Int) (k : Int) (us : List α) : pickS lo k (us.map f) = (pickS lo k us).map f := by
  unfold pickS
  rw [List.length_map, List.map_filterMap]
  simp
theorem pickS_len {α : Type} (lo : Option Int) (k : Int) (us : List α) : (pickS lo k us).length ≤ us.length := by
  have := slicePick_size_le (us.map fun _ => Value.none).toArray lo none (some k)
  unfold slicePick at this
  unfold pickS
  simp at this
  refine Nat.le_trans (Nat.le_of_eq ?_) this
  generalize (sliceRange _ _ _) = ix
  induction ix with
  | nil => rfl
  | cons i ix ih =>
    by_cases h : i < us.length
    · simp [h, ih]
    · simp [h, ih]
theorem fm_row (g : Nat → Bool) (n : Nat) : (rngU 0 n 1).filterMap (fun u => match u with
    | .d (.int e) => if g e.toNat = true then some u else none
    | _ => none) = (nD ((List.range n).filter g)).map .d := by
  unfold rngU nD nI
  rw [List.filterMap_map]
  generalize List.range n = l
  induction l with
  | nil => rfl
  | cons a l ih =>
    by_cases h : g a = true
    · simp [h] at ih ⊢
      exact ih
    · simp [h] at ih ⊢
      exact ih
/-- a turn of a comprehension with a test -/
theorem turn_flt {C : Cn} {O T1 : Cs} {ρ ρ1 : Rho} {elt t : CE} {g : Tg} {own : List Nat} {u y : U} {b : Bool} (h1 : asgT O T1 g u (wipeR ρ own) = some ρ1) (h2 : den C O ρ1 t T1 = .ok (.d (.bool b)) T1) (h3 : den C O ρ1 elt T1 = .ok y T1) : Turn1 C O ρ elt t g own T1 u (if b = true then some y else none) := by
  refine ⟨ρ1, h1, ?_⟩
  cases b with
  | true => exact ⟨h2, h3⟩
  | false => exact h2
theorem turn_all {C : Cn} {O T1 : Cs} {ρ ρ1 : Rho} {elt : CE} {g : Tg} {own : List Nat} {u y : U} (h1 : asgT O T1 g u (wipeR ρ own) = some ρ1) (h3 : den C O ρ1 elt T1 = .ok y T1) : Turn1 C O ρ elt (.c (.bool true)) g own T1 u (some y) :=
  ⟨ρ1, h1, by simp, h3⟩
section
variable {C : Cn} {O T : Cs} {ρ : Rho} {elt t a b : CE} {g : Tg} {it : IT} {own : List Nat} {us : List U} {w : Option Nat} {tt : Cs}
theorem comp_runI (rs : List (Option U)) (hw : ∀ acc, sameW O tt (T ++ [.lstU acc]) w = true) (hlen : rs.length = us.length) (h : ∀ (i : Nat) (u : U) (r : Option U), us[i]? = some u → rs[i]? = some r → ∀ acc, Turn1 C O ρ elt t g own (T ++ [.lstU acc]) u r) (hl : us.length ≤ 1000000) :
    compC (fun u T => match asgT O T g u (wipeR ρ own) with
        | some ρ' => (den C O ρ' t T).bind fun b T => brB (asB b) ((den C O ρ' elt T).bind fun y T => .ok (some y) T) (.ok none T)
        | none => .fail) (fun T' => sameW O tt T' w) T.length us (T ++ [.lstU []]) = .ok () (T ++ [.lstU (rs.filterMap id)]) := by
  suffices k : ∀ (vs : List U) (qs : List (Option U)) (acc : List U), acc.length + vs.length ≤ 1000000 → vs.length = qs.length → (∀ (i : Nat) (u : U) (r : Option U), vs[i]? = some u → qs[i]? = some r → ∀ acc, Turn1 C O ρ elt t g own (T ++ [.lstU acc]) u r) → compC (fun u T => match asgT O T g u (wipeR ρ own) with
        | some ρ' => (den C O ρ' t T).bind fun b T => brB (asB b) ((den C O ρ' elt T).bind fun y T => .ok (some y) T) (.ok none T)
        | none => .fail) (fun T' => sameW O tt T' w) T.length vs (T ++ [.lstU acc]) = .ok () (T ++ [.lstU (acc ++ qs.filterMap id)]) by
    have := k us rs [] (by simpa using hl) hlen.symm h
    simpa using this
  intro vs
  induction vs with
  | nil =>
    intro qs acc _ hq _
    have : qs = [] := List.eq_nil_of_length_eq_zero hq.symm
    subst this
    rw [compC, if_pos (hw acc)]
    simp
  | cons v vs ih =>
    intro qs acc hz hq hs
    cases qs with
    | nil => simp at hq
    | cons r qs =>
      rw [compC, if_pos (hw acc)]
      obtain ⟨ρ1, e1, e2⟩ := hs 0 v r rfl rfl acc
      simp only [e1]
      have hs' : ∀ (i : Nat) (u : U) (r : Option U), vs[i]? = some u → qs[i]? = some r → ∀ acc, Turn1 C O ρ elt t g own (T ++ [.lstU acc]) u r := fun i u r a b => hs (i + 1) u r (by simpa using a) (by simpa using b)
      have hq' : vs.length = qs.length := by simpa using hq
      cases r with
      | none =>
        have e2 : den C O ρ1 t (T ++ [.lstU acc]) = .ok (.d (.bool false)) (T ++ [.lstU acc]) := e2
        simp only [e2, R.bind_ok, asB_bool, brB_f, putC]
        rw [ih qs acc (by simp at hz; omega) hq' hs']
        simp
      | some y =>
        have e3 : den C O ρ1 t (T ++ [.lstU acc]) = .ok (.d (.bool true)) (T ++ [.lstU acc]) := e2.1
        have e4 : den C O ρ1 elt (T ++ [.lstU acc]) = .ok y (T ++ [.lstU acc]) := e2.2
        simp only [e3, e4, R.bind_ok, asB_bool, brB_t, putC]
        have e5 : (T ++ [Cell.lstU acc])[T.length]? = some (.lstU acc) := by simp
        simp only [e5]
        rw [if_pos (by simp at hz ⊢; omega)]
        simp only [R.bind_ok]
        have e6 : (T ++ [Cell.lstU acc]).set T.length (.lstU (acc ++ [y])) = T ++ [.lstU (acc ++ [y])] := by
          rw [List.set_append_right (h := Nat.le_refl _)]
          simp
        rw [e6, ih qs (acc ++ [y]) (by simp at hz ⊢; omega) hq' hs']
        simp
theorem comp_i (rs : List (Option U)) {ds : List Y.D} (he : denI C O ρ it T = .ok ⟨us, w, tt⟩ T) (hw : ∀ acc, sameW O tt (T ++ [.lstU acc]) w = true) (hlen : rs.length = us.length) (h : ∀ (i : Nat) (u : U) (r : Option U), us[i]? = some u → rs[i]? = some r → ∀ acc, Turn1 C O ρ elt t g own (T ++ [.lstU acc]) u r) (hl : us.length ≤ 1000000) (hd : rs.filterMap id = ds.map .d) :
    den C O ρ (.comp false elt g it t own) T = .ok (.d (.list ds)) T := by
  rw [den, he, R.bind_ok]
  refine (congrArg (fun r : R Unit => r.bind fun _ T' => compE O false T T') (comp_runI rs hw hlen h hl)).trans ?_
  show compE O false T _ = _
  unfold compE
  have e5 : (T ++ [Cell.lstU (rs.filterMap id)])[T.length]? = some (.lstU (rs.filterMap id)) := by simp
  simp only [e5, hd, allD_map]
  simp [beqCs_r]
/-- every turn gives one -/
theorem comp_m {ds : List Y.D} (he : denI C O ρ it T = .ok ⟨us, w, tt⟩ T) (hw : ∀ acc, sameW O tt (T ++ [.lstU acc]) w = true) (hlen : ds.length = us.length) (h : ∀ (i : Nat) (u : U) (d : Y.D), us[i]? = some u → ds[i]? = some d → ∀ acc, Turn1 C O ρ elt t g own (T ++ [.lstU acc]) u (some (.d d))) (hl : us.length ≤ 1000000) :
    den C O ρ (.comp false elt g it t own) T = .ok (.d (.list ds)) T := by
  refine comp_i (ds.map fun d => some (.d d)) he hw (by simpa using hlen) ?_ hl (by
    induction ds with
    | nil => rfl
    | cons a l ih => simp [List.filterMap_map, Function.comp_def])
  intro i u r h1 h2 acc
  rw [List.getElem?_map, Option.map_eq_some_iff] at h2
  obtain ⟨d, hd, rfl⟩ := h2
  exact h i u d h1 hd acc
theorem zipT_ok {xs ys : List D} (ha : den C O ρ a T = .ok (.d (.tuple xs)) T) (hb : den C O ρ b T = .ok (.d (.tuple ys)) T) : denI C O ρ (.zipL a b) T = .ok ⟨(xs.zip ys).map fun p => .d (.tuple [p.1, p.2]), none, T⟩ T := by
  rw [denI, ha, R.bind_ok, hb, R.bind_ok]
  show (.ok ⟨((xs.map U.d).zip (ys.map U.d)).map fun p => mkT [p.1, p.2], none, T⟩ T : R Its) = _
  rw [List.zip_map, List.map_map]
  rfl
theorem zipL_ok {xs ys : List D} (ha : den C O ρ a T = .ok (.d (.list xs)) T) (hb : den C O ρ b T = .ok (.d (.list ys)) T) : denI C O ρ (.zipL a b) T = .ok ⟨(xs.zip ys).map fun p => .d (.tuple [p.1, p.2]), none, T⟩ T := by
  rw [denI, ha, R.bind_ok, hb, R.bind_ok]
  show (.ok ⟨((xs.map U.d).zip (ys.map U.d)).map fun p => mkT [p.1, p.2], none, T⟩ T : R Its) = _
  rw [List.zip_map, List.map_map]
  rfl
end
theorem intsOf_nD (l : List Nat) : intsOf (nD l) = some (l.map fun n : Nat => (n : Int)) := by
  induction l with
  | nil => rfl
  | cons a l ih =>
    show (intsOf (nD l)).map ((a : Int) :: ·) = _
    rw [ih] <;> rfl
theorem sum_cast (l : List Nat) : (l.map fun n : Nat => (n : Int)).sum = ((l.sum : Nat) : Int) := by
  induction l with
  | nil => rfl
  | cons a l ih => simp [ih]
theorem sum_nD (O T : Cs) (l : List Nat) : sumB O T (.d (.list (nD l))) = .ok (.d (.int ((l.sum : Nat) : Int))) T := by
  unfold sumB listD
  simp only [Option.bind_some, intsOf_nD, sum_cast]
theorem addLL {O T : Cs} {a b : List D} (h : a.length + b.length ≤ 1000000) : binU O false .add (.d (.list a)) (.d (.list b)) T = .ok (.d (.list (a ++ b))) T := by
  show (if Y.sizeOk ((a.map U.d).length + (b.map U.d).length) then mkL O false (a.map U.d ++ b.map U.d) T else .fail) = _
  rw [if_pos (by simp [Y.sizeOk]; omega)]
  show mkL O false (a.map U.d ++ b.map U.d) T = _
  rw [← List.map_append]
  unfold mkL
  simp [allD_map]
theorem addTT {O T : Cs} {a b : List D} (h : a.length + b.length ≤ 1000000) : binU O false .add (.d (.tuple a)) (.d (.tuple b)) T = .ok (.d (.tuple (a ++ b))) T := by
  show (if Y.sizeOk ((a.map U.d).length + (b.map U.d).length) then R.ok (mkT (a.map U.d ++ b.map U.d)) T else .fail) = _
  rw [if_pos (by simp [Y.sizeOk]; omega), ← List.map_append]
  unfold mkT
  simp [allD_map]
theorem fm_nD (g : Nat → Bool) (l : List Nat) : ((nD l).map U.d).filterMap (fun u => match u with
    | .d (.int e) => if g e.toNat = true then some u else none
    | _ => none) = (nD (l.filter g)).map .d := by
  unfold nD nI
  rw [List.filterMap_map]
  induction l with
  | nil => rfl
  | cons a l ih =>
    by_cases h : g a = true
    · simp [h] at ih ⊢
      exact ih
    · simp [h] at ih ⊢
      exact ih
theorem ex_dec (F : List Nat) (j : Nat) : decide (∃ f ∈ F, ((f : Nat) : Int) = ((j : Nat) : Int)) = decide (j ∈ F) := by
  rw [decide_eq_decide]
  constructor
  · rintro ⟨f, hf, e⟩
    have : f = j := by omega
    subst this; exact hf
  · intro h; exact ⟨j, h, rfl⟩
@[simp] theorem biU_stp (O T : Cs) (l : Bool) (lo : Option Int) (k : Int) (us : List U) : biU O l (.stp lo k) us T = one us (stpB O l lo k T) := rfl
theorem stp_int (O T : Cs) (lo : Option Int) (k : Int) (hk : 1 ≤ k) (ns : List Int) : stpB O false lo k T (.d (.list (ns.map .int))) = .ok (.d (.list ((pickS lo k ns).map .int))) T := by
  show (if decide (1 ≤ k) = true then mkL O false (pickS lo k ((ns.map PyData.int).map U.d)) T else .fail) = _
  rw [if_pos (by simpa using hk), pickS_map, pickS_map]
  unfold mkL
  simp [allD_map]
theorem den_binOf {C : Cn} {O T T1 T2 : Cs} {ρ : Rho} {a b : CE} {l : Bool} {o : Op} {x y : U} {r : R U} (ha : den C O ρ a T = .ok x T1) (hb : den C O ρ b T1 = .ok y T2) (h : binU O l o x y T2 = r) : den C O ρ (.bin l o a b) T = r := by
  rw [den_bin, ha, R.bind_ok, hb, R.bind_ok, h]
theorem getC_in {O : Cs} {i : Nat} {c : Cell} (h : O[i]? = some c) (T : Cs) : getC O T i = some c := by
  unfold getC
  rw [if_pos (List.getElem?_eq_some_iff.mp h).1, h]
theorem isin_dct {O T : Cs} {r : Nat} {kvs : List (Ky × D)} (h : getC O T r = some (.dct kvs)) (d e : Int) : cmpU O .isin (.d (.tuple [.int d, .int e])) (.ref r) T = some (lookK kvs [.inl d, .inl e]).isSome := by
  show cmpU.isinU O (.d (.tuple [.int d, .int e])) (.ref r) T = _
  unfold cmpU.isinU dictOf
  simp only [h]
  have : keyU (.d (.tuple [.int d, .int e])) = some [.inl d, .inl e] := rfl
  simp only [this, lookK_d]
  cases lookK kvs [.inl d, .inl e] <;> rfl
theorem seti_dct {O T : Cs} {k : Nat} {kvs : List (Ky × D)} (h : T[k]? = some (.dct kvs)) (hl : kvs.length ≤ 1000000) (d e : Int) (v : D) : setiU O (.ref (O.length + k)) (.d (.tuple [.int d, .int e])) (.d v) T = .ok (.d .none) (T.set k (.dct (putK kvs [.inl d, .inl e] v))) := by
  unfold setiU
  have hk : keyU (.d (.tuple [.int d, .int e])) = some [.inl d, .inl e] := rfl
  have hlt := (List.getElem?_eq_some_iff.mp h).1
  simp only [getC_k, h, hk]
  rw [if_pos (by simpa [Y.sizeOk] using hl), setC_k, if_pos hlt]
theorem fm_map (g : Nat → Bool) (h : Nat → Nat) (n : Nat) : (rngU 0 n 1).filterMap (fun u => match u with
    | .d (.int e) => if g e.toNat = true then some (U.d (.int ((h e.toNat : Nat) : Int))) else none
    | _ => none) = (nD (((List.range n).filter g).map h)).map .d := by
  unfold rngU nD nI
  rw [List.filterMap_map]
  generalize List.range n = l
  induction l with
  | nil => rfl
  | cons a l ih =>
    by_cases hh : g a = true
    · simp [hh] at ih ⊢
      exact ih
    · simp [hh] at ih ⊢
      exact ih
@[simp] theorem asgT_lp (O T : Cs) (ts : Tgs) (u : U) (ρ : Rho) : asgT O T (.lp ts) u ρ = match seqL O T u with
    | some us => asgTs O T ts us ρ
    | none => none := by rw [asgT] <;> rfl
theorem keys_ok {C : Cn} {O T T1 : Cs} {ρ : Rho} {a : CE} {k : Nat} {kvs : List (Ky × D)} (h : den C O ρ a T = .ok (.ref (O.length + k)) T1) (hk : T1[k]? = some (.dct kvs)) : denI C O ρ (.keys a) T = .ok ⟨kvs.map fun p => .d (keyD p.1), none, T1.set k .dead⟩ (T1.set k .dead) := by
  have hlt := (List.getElem?_eq_some_iff.mp hk).1
  rw [denI, h, R.bind_ok]
  have e : dictOf O T1 (.ref (O.length + k)) = some (kvs.map fun p => (p.1, .d p.2)) := by
    unfold dictOf
    simp only [getC_k, hk]
  simp only [e, setC_k, if_pos hlt, R.bind_ok, List.map_map]
  rfl
end Y

set_option Elab.async false
set_option linter.all false
set_option maxRecDepth 100000
set_option maxHeartbeats 4000000
namespace Y
open PySem
def turnedB : CB := (.cons (.asg (.nm 2) (.bin true .mul (.lst false (.cons (.c (.int 0)) .nil)) (.v 1)))
 (.cons (.for_ (.tp (.cons (.nm 3) (.cons (.nm 4) .nil))) (.enumT (.v 0)) (.cons (.for_ (.nm 5) (.rng1 (.v 1)) (.cons (.seti (.v 2) (.v 5) (.bin false .bor (.ix (.v 2) (.v 5)) (.bin false .shl (.bin false .band (.bin false .shr (.v 4) (.v 5)) (.c (.int 1))) (.v 3))))
   .nil))
  .nil))
 (.cons (.ret (.bi false .tuple (.cons (.v 2) .nil)))
 .nil)))
def weightB : CB := (.cons (.ret (.ix (.tup (.cons (.c (.int 1)) (.cons (.c (.int 2)) (.cons (.c (.int 4)) (.cons (.c (.int 8)) (.cons (.c (.int 16)) (.cons (.c (.int 32)) .nil))))))) (.v 0)))
 .nil)
/-- the facts of a row -/
def row (g : Nat → Bool) : List Nat := (List.range 6).filter g
def wt (l : List Nat) : Nat := (l.map (2 ^ ·)).sum
def gm (g : Nat → Bool) : Nat := wt (row g)
theorem gm_eq (g : Nat → Bool) : gm g = (g 0).toNat + (g 1).toNat * 2 + (g 2).toNat * 4 + (g 3).toNat * 8 + (g 4).toNat * 16 + (g 5).toNat * 32 := by
  unfold gm row wt
  rw [show List.range 6 = [0, 1, 2, 3, 4, 5] from rfl]
  simp only [List.filter_cons, List.filter_nil]
  cases g 0 <;> cases g 1 <;> cases g 2 <;> cases g 3 <;> cases g 4 <;> cases g 5 <;> rfl
theorem gm_lt (g : Nat → Bool) : gm g < 64 := by
  rw [gm_eq]
  cases g 0 <;> cases g 1 <;> cases g 2 <;> cases g 3 <;> cases g 4 <;> cases g 5 <;> decide
theorem gm_bit (g : Nat → Bool) (j : Nat) : (gm g).testBit j = (decide (j < 6) && g j) := by
  by_cases hj : j < 6
  · rw [gm_eq]
    have : j = 0 ∨ j = 1 ∨ j = 2 ∨ j = 3 ∨ j = 4 ∨ j = 5 := by omega
    rcases this with rfl | rfl | rfl | rfl | rfl | rfl <;> cases g 0 <;> cases g 1 <;> cases g 2 <;> cases g 3 <;> cases g 4 <;> cases g 5 <;> rfl
  · rw [Nat.testBit_lt_two_pow (Nat.lt_of_lt_of_le (gm_lt g) (by show 2 ^ 6 ≤ 2 ^ j; exact Nat.pow_le_pow_right (by decide) (by omega)))]
    simp [hj]
theorem nD_gt {l : List Nat} {i : Nat} {d : D} (h : (nD l)[i]? = some d) : ∃ x : Nat, l[i]? = some x ∧ d = .int (x : Int) := by
  simp only [nD, nI, List.map_map, List.getElem?_map, Option.map_eq_some_iff] at h
  obtain ⟨x, h1, rfl⟩ := h
  exact ⟨x, h1, rfl⟩
theorem w6 {x : Nat} (h : x < 6) : L2.atI ([.int 1, .int 2, .int 4, .int 8, .int 16, .int 32] : List D) (x : Int) = some (.int ((2 ^ x : Nat) : Int)) := by
  rw [atI_nat _ _ (by omega) (by simp; omega)]
  have : x = 0 ∨ x = 1 ∨ x = 2 ∨ x = 3 ∨ x = 4 ∨ x = 5 := by omega
  rcases this with rfl | rfl | rfl | rfl | rfl | rfl <;> rfl
theorem p2 {x : Nat} (h : x < 6) : 0 < ((2 ^ x : Nat) : Int) ∧ ((2 ^ x : Nat) : Int) < 1000000000000000000000000000000000000000000000000000000000000 := by
  have : x = 0 ∨ x = 1 ∨ x = 2 ∨ x = 3 ∨ x = 4 ∨ x = 5 := by omega
  rcases this with rfl | rfl | rfl | rfl | rfl | rfl <;> decide
theorem row_len (g : Nat → Bool) : (row g).length ≤ 6 := Nat.le_trans (List.length_filter_le _ _) (by simp)
theorem row_mem {g : Nat → Bool} {e : Nat} : e ∈ row g ↔ e < 6 ∧ g e = true := by unfold row; simp
def pm (tb : List Nat) (i o : Nat) : Nat := gm fun k => decide (k < i) && (tb.getD k 0).testBit o
theorem pm_zero (tb : List Nat) (o : Nat) : pm tb 0 o = 0 := by
  unfold pm
  have : (fun k => decide (k < 0) && (tb.getD k 0).testBit o) = fun _ => false := by funext k; simp
  rw [this]
  rfl
theorem pm_step (tb : List Nat) {i o r : Nat} (h : tb[i]? = some r) (hi : i < 6) : pm tb i o ||| ((r.testBit o).toNat <<< i) = pm tb (i + 1) o := by
  apply Nat.eq_of_testBit_eq
  intro j
  have hr : tb.getD i 0 = r := by rw [List.getD_eq_getElem?_getD, h] <;> rfl
  unfold pm
  rw [Nat.testBit_or, gm_bit, gm_bit, Nat.testBit_shiftLeft]
  by_cases hj : j < 6
  · by_cases hji : j = i
    · subst hji
      rw [hr]
      cases r.testBit o <;> simp [hj]
    · by_cases hl : j < i
      · have h1 : ¬ i ≤ j := by omega
        have h2 : j < i + 1 := by omega
        simp [hl, h1, h2]
      · have h1 : ¬ j < i + 1 := by omega
        have h2 : (r.testBit o).toNat.testBit (j - i) = false := by
          apply Nat.testBit_lt_two_pow
          have : (r.testBit o).toNat ≤ 1 := by cases r.testBit o <;> decide
          have : 2 ^ 1 ≤ 2 ^ (j - i) := Nat.pow_le_pow_right (by decide) (by omega)
          omega
        simp [hl, h1, h2]
  · have h2 : (r.testBit o).toNat.testBit (j - i) = false := by
      apply Nat.testBit_lt_two_pow
      have : (r.testBit o).toNat ≤ 1 := by cases r.testBit o <;> decide
      have : 2 ^ 1 ≤ 2 ^ (j - i) := Nat.pow_le_pow_right (by decide) (by omega)
      omega
    simp [hj, h2]
def tr (tb : List Nat) (m : Nat) : List Nat := (List.range m).map fun o => gm fun i => (tb.getD i 0).testBit o
def half (tb : List Nat) (m i j : Nat) : List Nat := (List.range m).map fun o => if o < j then pm tb (i + 1) o else pm tb i o
theorem half_zero (tb : List Nat) (m i : Nat) : half tb m i 0 = (List.range m).map fun o => pm tb i o := by
  unfold half
  refine List.map_congr_left fun o _ => ?_
  simp
theorem half_full (tb : List Nat) (m i : Nat) : half tb m i m = half tb m (i + 1) 0 := by
  rw [half_zero]
  unfold half
  refine List.map_congr_left fun o ho => ?_
  rw [List.mem_range] at ho
  simp [ho]
theorem half_end (tb : List Nat) (m : Nat) (h : tb.length ≤ 6) : half tb m tb.length 0 = tr tb m := by
  rw [half_zero]
  unfold tr pm
  refine List.map_congr_left fun o _ => ?_
  congr 1
  funext k
  by_cases hk : k < tb.length
  · simp [hk]
  · rw [List.getD_eq_getElem?_getD, List.getElem?_eq_none (by omega)]
    simp [hk]
theorem half_set (tb : List Nat) {m i j : Nat} (hj : j < m) : (half tb m i j).set j (pm tb (i + 1) j) = half tb m i (j + 1) := by
  apply List.ext_getElem?
  intro k
  by_cases hk : k = j
  · subst hk
    rw [List.getElem?_set_self (by simp [half]; omega)]
    unfold half
    rw [List.getElem?_map, List.getElem?_range hj]
    simp
  · rw [List.getElem?_set_ne (Ne.symm hk)]
    unfold half
    rw [List.getElem?_map, List.getElem?_map]
    by_cases hkm : k < m
    · rw [List.getElem?_range hkm]
      simp only [Option.map_some]
      by_cases h1 : k < j
      · have : k < j + 1 := by omega
        simp [h1, this]
      · have : ¬ k < j + 1 := by omega
        simp [h1, this]
    · rw [List.getElem?_eq_none (by simp; omega)] <;> rfl
theorem half_get (tb : List Nat) {m i j : Nat} (hj : j < m) : (half tb m i j)[j]? = some (pm tb i j) := by
  unfold half
  rw [List.getElem?_map, List.getElem?_range hj]
  simp
theorem val_ok (tb : List Nat) {i j r : Nat} (h : tb[i]? = some r) (hi : i < 6) : Builtin.bitOr ((pm tb i j : Nat) : Int) (Builtin.bitAnd ((r : Int) / 2 ^ j) 1 * 2 ^ i) = ((pm tb (i + 1) j : Nat) : Int) := by
  have e1 : Builtin.bitAnd ((r : Int) / 2 ^ j) 1 = (((r.testBit j).toNat : Nat) : Int) := by
    have q := bit_iff r j
    rw [PyProof.Rows.bitAnd_m1] at q ⊢
    cases hb : r.testBit j with
    | true => rw [q.mpr hb] <;> rfl
    | false =>
      have : ¬ (r : Int) / 2 ^ j % 2 = 1 := fun e => by rw [q.mp e] at hb; cases hb
      have h2 : (r : Int) / 2 ^ j % 2 = 0 ∨ (r : Int) / 2 ^ j % 2 = 1 := by omega
      rcases h2 with h2 | h2
      · rw [h2] <;> rfl
      · exact absurd h2 this
  have e2 : (((r.testBit j).toNat : Nat) : Int) * 2 ^ i = (((r.testBit j).toNat <<< i : Nat) : Int) := by
    rw [Nat.shiftLeft_eq]
    simp
  rw [e1, e2, bitOr_n, pm_step tb h hi]
theorem nD_set (l : List Nat) (j x : Nat) : (nD l).set j (.int (x : Int)) = nD (l.set j x) := by
  simp [nD, nI, List.map_set]
theorem seti_l {O : Cs} {ds : List D} {j : Int} {v : D} (h0 : 0 ≤ j) (h1 : j < ds.length) : setiU O (.ref O.length) (.d (.int j)) (.d v) [.lst ds] = .ok (.d .none) [.lst (ds.set j.toNat v)] := by
  unfold setiU
  have : L2.ixN ds.length j = some j.toNat := by
    unfold L2.ixN
    simp [h0, h1]
  simp [this]
theorem turned_run {G : Pg} {jt : Nat} (hG : G.defs jt = some ⟨2, 6, turnedB⟩) (n : Nat) (O : Cs) (tb : List Nat) (hl : tb.length ≤ 6) (z : Int) (h0 : 0 ≤ z) (h6 : z ≤ 6) : ∃ T', Y.run G (n + 1) O jt [.d (.tuple (nD tb)), .d (.int z)] [] = .ok (.d (.tuple (nD (tr tb z.toNat)))) T' := by
  suffices hg : Gv (Y.run G (n + 1) O jt [.d (.tuple (nD tb)), .d (.int z)] []) fun u T' => u = .d (.tuple (nD (tr tb z.toNat))) by
    obtain ⟨u, T', e, rfl⟩ := hg.ex
    exact ⟨T', e⟩
  refine run_wp hG rfl ?_
  obtain ⟨m, hm⟩ : ∃ m : Nat, m = z.toNat := ⟨_, rfl⟩
  have hro : rngOk 0 z = true := by simp [rngOk]; omega
  have hmul : binU O true .mul (.d (.list [.int 0])) (.d (.int z)) [] = .ok (.ref O.length) [.lst (nD (half tb m 0 0))] := by
    show (if (decide (0 ≤ z) && decide (z ≤ 1000000) && Y.sizeOk (([U.d (.int 0)] : List U).length * z.toNat)) = true then mkL O true (List.replicate z.toNat [U.d (.int 0)]).flatten [] else .fail) = _
    rw [if_pos (by simp [Y.sizeOk]; omega), List.flatten_replicate_singleton, half_zero]
    have e : List.replicate z.toNat (U.d (.int 0)) = (nD ((List.range m).map fun o => pm tb 0 o)).map .d := by
      rw [← hm]
      apply List.ext_getElem
      · simp [nD, nI]
      · intro i h1 h2
        simp [pm_zero, nD, nI]
    rw [e]
    unfold mkL
    simp [allD_map]
  rw [← hm]
  simp only [turnedB]
  simp [hmul]
  refine wp_for ⟨tb.zipIdx.map fun p => .d (.tuple [.int (p.2 : Nat), .int (p.1 : Nat)]), none, [.lst (nD (half tb m 0 0))]⟩ [.lst (nD (half tb m 0 0))] (fun i ρ T => T = [.lst (nD (half tb m i 0))] ∧ ∃ x y w, ρ = [some (.d (.tuple (nD tb))), some (.d (.int z)), some (.ref O.length), x, y, w]) ?_ ?_ (by simp) ?_ ?_
  · simp [nD, nI, List.zipIdx_map]
  · exact ⟨rfl, none, none, none, rfl⟩
  · rintro i u hu ρ T ⟨rfl, x, y, w, rfl⟩
    simp only [List.getElem?_map, Option.map_eq_some_iff] at hu
    obtain ⟨⟨r, k⟩, hp, rfl⟩ := hu
    have hr : tb[i]? = some r ∧ k = i := by
      rw [List.getElem?_zipIdx, Option.map_eq_some_iff] at hp
      obtain ⟨a, ha, e⟩ := hp
      cases e
      exact ⟨ha, by simp⟩
    obtain ⟨hr, rfl⟩ := hr
    have hi6 : k < 6 := by
      have := (List.getElem?_eq_some_iff.mp hr).1
      omega
    obtain ⟨rI, hrI⟩ : ∃ rI : Int, rI = (r : Int) := ⟨_, rfl⟩
    obtain ⟨kI, hkI⟩ : ∃ kI : Int, kI = (k : Int) := ⟨_, rfl⟩
    have hkt : kI.toNat = k := by omega
    simp only
    rw [← hrI, ← hkI]
    refine ⟨_, rfl, ?_⟩
    simp
    refine wp_for ⟨rngU 0 m 1, none, [.lst (nD (half tb m k 0))]⟩ [.lst (nD (half tb m k 0))] (fun j ρ T => T = [.lst (nD (half tb m k j))] ∧ ∃ w, ρ = [some (.d (.tuple (nD tb))), some (.d (.int z)), some (.ref O.length), some (.d (.int kI)), some (.d (.int rI)), w]) ?_ ?_ (by simp) ?_ ?_
    · simp [hro, hm]
    · exact ⟨rfl, _, rfl⟩
    · rintro j u hu ρ T ⟨rfl, w, rfl⟩
      obtain ⟨hj, rfl⟩ := rngU_get hu
      obtain ⟨jI, hjI⟩ : ∃ jI : Int, jI = (j : Int) := ⟨_, rfl⟩
      have hw0 : (0 + ((j : Nat) : Int) * 1) = jI := by omega
      rw [hw0]
      refine ⟨_, rfl, ?_⟩
      have hlen : (nD (half tb m k j)).length = m := by simp [nD, nI, half]
      have hjt : jI.toNat = j := by omega
      have hv := val_ok tb (j := j) hr hi6
      rw [← hrI] at hv
      obtain ⟨pI, hpI⟩ : ∃ pI : Int, pI = ((pm tb k j : Nat) : Int) := ⟨_, rfl⟩
      obtain ⟨qI, hqI⟩ : ∃ qI : Int, qI = ((pm tb (k + 1) j : Nat) : Int) := ⟨_, rfl⟩
      rw [← hpI, ← hqI] at hv
      have hx : ixU O (.ref O.length) (.d (.int jI)) [.lst (nD (half tb m k j))] = some (.d (.int pI)) := by
        show (match getC O [.lst (nD (half tb m k j))] O.length with
          | some (.lst ds) => (L2.atI ds jI).map U.d
          | some (.lstU us) => L2.atI us jI
          | _ => none) = _
        simp only [getC_0, List.getElem?_cons_zero]
        rw [atI_nat _ _ (by omega) (by omega), hjt]
        have := half_get tb (i := k) hj
        simp [nD, nI, this, hpI]
      have hs : setiU O (.ref O.length) (.d (.int jI)) (.d (.int qI)) [.lst (nD (half tb m k j))] = .ok (.d .none) [.lst (nD (half tb m k (j + 1)))] := by
        rw [seti_l (by omega) (by omega), hjt, hqI, nD_set, half_set tb hj]
      have hb1 : Builtin.bitAnd (rI / 2 ^ j) 1 < 18446744073709551616 ∧ -18446744073709551616 < Builtin.bitAnd (rI / 2 ^ j) 1 := by
        rw [PyProof.Rows.bitAnd_m1]
        omega
      have hj0 : 0 ≤ jI := by omega
      have hk0 : 0 ≤ kI ∧ kI ≤ 1000 := by omega
      generalize nD (half tb m k (j + 1)) = R2 at hs
      generalize nD (half tb m k j) = R1 at hs hx
      simp [hx, hj0, hk0, hb1, hjt, hkt, hv, hs]
    · rintro ρ T ⟨rfl, w, rfl⟩
      refine ⟨?_, _, _, _, rfl⟩
      simp only [rngU_len]
      rw [half_full]
  · rintro ρ T ⟨rfl, x, y, w, rfl⟩
    have : (tb.zipIdx.map fun p => U.d (.tuple [.int (p.2 : Nat), .int (p.1 : Nat)])).length = tb.length := by simp
    simp only [this]
    rw [half_end tb m hl]
    simp [seqL, mkT]
theorem weight_run {G : Pg} {jw : Nat} (hG : G.defs jw = some ⟨1, 1, weightB⟩) (n : Nat) (O : Cs) (e : Nat) (he : e < 6) : Y.run G (n + 1) O jw [.d (.int (e : Int))] [] = .ok (.d (.int ((2 ^ e : Nat) : Int))) [] := by
  have hw := w6 he
  obtain ⟨v, hv⟩ : ∃ v : Int, v = ((2 ^ e : Nat) : Int) := ⟨_, rfl⟩
  obtain ⟨x, hx⟩ : ∃ x : Int, x = (e : Int) := ⟨_, rfl⟩
  rw [← hv, ← hx] at hw ⊢
  refine Gv.eq (run_wp hG rfl ?_)
  simp [weightB, hw]
def lawTurnedB (jw : Nat) : CB := (.cons (.asg (.nm 2) (.lst true .nil))
 (.cons (.for_ (.nm 3) (.rng1 (.v 1)) (.cons (.asg (.nm 4) (.comp false (.v 5) (.nm 5) (.rng1 (.bi false .len (.cons (.v 0) .nil))) (.cmp .eq (.bin false .mod (.bin false .fdiv (.ix (.v 0) (.v 5)) (.call false jw (.cons (.v 3) .nil) [])) (.c (.int 2))) (.c (.int 1))) [5]))
  (.cons (.ex (.mt false .append (.v 2) (.cons (.bi false .sum (.cons (.comp false (.call false jw (.cons (.v 5) .nil) []) (.nm 5) (.lst (.v 4)) (.c (.bool true)) [5]) .nil)) .nil)))
  .nil)))
 (.cons (.ret (.bi false .tuple (.cons (.v 2) .nil)))
 .nil)))
theorem rowt (g : Nat → Bool) (t : Nat) (h : t ≤ 6) : wt ((List.range t).filter g) = gm fun e => decide (e < t) && g e := by
  have : t = 0 ∨ t = 1 ∨ t = 2 ∨ t = 3 ∨ t = 4 ∨ t = 5 ∨ t = 6 := by omega
  rcases this with rfl | rfl | rfl | rfl | rfl | rfl | rfl <;> rfl
theorem wt_tr (tb : List Nat) (e : Nat) (hl : tb.length ≤ 6) : wt ((List.range tb.length).filter fun d => (tb.getD d 0).testBit e) = gm fun i => (tb.getD i 0).testBit e := by
  rw [rowt _ _ hl]
  congr 1
  funext i
  by_cases h : i < tb.length
  · simp [h]
  · have : tb.getD i 0 = 0 := by simp [List.getD, List.getElem?_eq_none (by omega : tb.length ≤ i)]
    rw [this]
    simp
theorem tr_len (tb : List Nat) (m : Nat) : (tr tb m).length = m := by simp [tr]
section
variable {G : Pg} {jl jw : Nat}
theorem lt_test {C : Cn} {O T : Cs} (jw : Nat) (L : List D) (eI jI y v : Int) (x1 x2 x4 : Option U) (hat : L2.atI L jI = some (.int y)) (hc : callP C O jw [.d (.int eI)] T = .ok (.d (.int v)) T) (hp : 0 < v ∧ v < 1000000000000000000000000000000000000000000000000000000000000) : den C O [some (.d (.tuple L)), x1, x2, some (.d (.int eI)), x4, some (.d (.int jI))] (.cmp .eq (.bin false .mod (.bin false .fdiv (.ix (.v 0) (.v 5)) (.call false jw (.cons (.v 3) .nil) [])) (.c (.int 2))) (.c (.int 1))) T = .ok (.d (.bool (decide (y / v % 2 = 1)))) T := by
  simp [hat, hc, hp]
theorem rng1_ok {C : Cn} {O T : Cs} {ρ : Rho} {a : CE} {z : Int} {n : Nat} (h : den C O ρ a T = .ok (.d (.int z)) T) (h0 : rngOk 0 z = true) (hn : z.toNat = n) : denI C O ρ (.rng1 a) T = .ok ⟨rngU 0 n 1, none, T⟩ T := by
  rw [denI_rng1, h]
  simp [h0, hn]
theorem lt_ones (hw : G.defs jw = some ⟨1, 1, weightB⟩) (n : Nat) (O T : Cs) (tb : List Nat) (hl : tb.length ≤ 6) (e : Nat) (he : e < 6) (x1 x2 x4 x5 : Option U) : den (cn G (n + 1)) O [some (.d (.tuple (nD tb))), x1, x2, some (.d (.int (e : Int))), x4, x5] (.comp false (.v 5) (.nm 5) (.rng1 (.bi false .len (.cons (.v 0) .nil))) (.cmp .eq (.bin false .mod (.bin false .fdiv (.ix (.v 0) (.v 5)) (.call false jw (.cons (.v 3) .nil) [])) (.c (.int 2))) (.c (.int 1))) [5]) T = .ok (.d (.list (nD ((List.range tb.length).filter fun d => (tb.getD d 0).testBit e)))) T := by
  have hnl : (nD tb).length = tb.length := by simp [nD, nI]
  have hro : rngOk 0 (tb.length : Int) = true := by simp [rngOk]; omega
  refine comp_d (us := rngU 0 tb.length 1) (w := none) (tt := T) (fun u => match u with | .d (.int d) => if (fun d => (tb.getD d 0).testBit e) d.toNat = true then some u else none | _ => none) ?_ (by simp) ?_ (by simp [rngU]; omega) ?_
  · exact rng1_ok (z := (tb.length : Int)) (by simp [hnl]) hro (by simp)
  · intro u hu acc
    simp only [rngU, List.mem_map, List.mem_range] at hu
    obtain ⟨j, hj, rfl⟩ := hu
    have hw0 : (0 + ((j : Nat) : Int) * 1) = ((j : Nat) : Int) := by omega
    rw [hw0]
    refine turn_flt (y := .d (.int (j : Int))) (asgT_nm _ _ _ _ _) ?_ ?_
    · have hc := callP_r O (T ++ [Cell.lstU acc]) (weight_run hw n (O ++ (T ++ [Cell.lstU acc])) e he)
      have hp := p2 he
      have hat : L2.atI (nD tb) (j : Int) = some (.int ((tb.getD j 0 : Nat) : Int)) := by
        rw [atI_nat _ _ (by omega) (by rw [hnl]; omega)]
        simp [nD, nI, List.getElem?_eq_getElem hj, List.getD]
      have hb : (decide (((tb.getD j 0 : Nat) : Int) / ((2 ^ e : Nat) : Int) % 2 = 1)) = (tb.getD j 0).testBit e := by
        rw [Nat.testBit_eq_decide_div_mod_eq, decide_eq_decide]
        omega
      simp only [Int.toNat_natCast]
      rw [← hb]
      have hT := lt_test (C := cn G (n + 1)) (O := O) (T := T ++ [Cell.lstU acc]) jw (nD tb) (e : Int) (j : Int) ((tb.getD j 0 : Nat) : Int) ((2 ^ e : Nat) : Int) x1 x2 x4 hat hc hp
      clear hc hat hp
      generalize (decide (((tb.getD j 0 : Nat) : Int) / ((2 ^ e : Nat) : Int) % 2 = 1)) = bb at hT ⊢
      simp only [wipeR, List.set_cons_succ, List.set_cons_zero]
      exact hT
    · simp [wipeR]
  · exact fm_row (fun d => (tb.getD d 0).testBit e) _
theorem lt_wts (hw : G.defs jw = some ⟨1, 1, weightB⟩) (n : Nat) (O T : Cs) (ones : List Nat) (ho : ∀ x ∈ ones, x < 6) (hl : ones.length ≤ 6) (x0 x1 x2 x3 x5 : Option U) : den (cn G (n + 1)) O [x0, x1, x2, x3, some (.d (.list (nD ones))), x5] (.comp false (.call false jw (.cons (.v 5) .nil) []) (.nm 5) (.lst (.v 4)) (.c (.bool true)) [5]) T = .ok (.d (.list (nD (ones.map (2 ^ ·))))) T := by
  have hnl : (nD ones).length = ones.length := by simp [nD, nI]
  refine comp_m (us := (nD ones).map .d) (w := none) (tt := T) ?_ (by simp) (by simp [nD, nI]) ?_ (by simp [hnl]; omega)
  · simp
  · intro i u d hu hd acc
    rw [List.getElem?_map, Option.map_eq_some_iff] at hu
    obtain ⟨a, ha, rfl⟩ := hu
    obtain ⟨x, hx, rfl⟩ := nD_gt ha
    obtain ⟨y, hy, rfl⟩ := nD_gt hd
    rw [List.getElem?_map, hx] at hy
    simp only [Option.map_some, Option.some.injEq] at hy
    subst hy
    refine turn_all (asgT_nm _ _ _ _ _) ?_
    have hc := callP_r O (T ++ [Cell.lstU acc]) (weight_run hw n (O ++ (T ++ [Cell.lstU acc])) x (ho x (List.mem_of_getElem? hx)))
    obtain ⟨v, hv⟩ : ∃ v : Int, v = ((2 ^ x : Nat) : Int) := ⟨_, rfl⟩
    rw [← hv] at hc ⊢
    simp [wipeR, hc]
theorem lawturned_run (hG : G.defs jl = some ⟨2, 6, lawTurnedB jw⟩) (hw : G.defs jw = some ⟨1, 1, weightB⟩) (n : Nat) (O : Cs) (tb : List Nat) (hl : tb.length ≤ 6) (z : Int) (h0 : 0 ≤ z) (h6 : z ≤ 6) : ∃ T', Y.run G (n + 2) O jl [.d (.tuple (nD tb)), .d (.int z)] [] = .ok (.d (.tuple (nD (tr tb z.toNat)))) T' := by
  suffices hg : Gv (Y.run G (n + 2) O jl [.d (.tuple (nD tb)), .d (.int z)] []) fun u T' => u = .d (.tuple (nD (tr tb z.toNat))) by
    obtain ⟨u, T', e, rfl⟩ := hg.ex
    exact ⟨T', e⟩
  refine run_wp hG rfl ?_
  obtain ⟨m, hm⟩ : ∃ m : Nat, m = z.toNat := ⟨_, rfl⟩
  have hro : rngOk 0 z = true := by simp [rngOk]; omega
  have hones := fun T e he x1 x2 x4 x5 => lt_ones hw n O T tb hl e he x1 x2 x4 x5
  have hwts := fun T ones ho hl x0 x1 x2 x3 x5 => lt_wts hw n O T ones ho hl x0 x1 x2 x3 x5
  rw [← hm]
  have hm6 : m ≤ 6 := by omega
  simp only [lawTurnedB]
  generalize hA : (CE.comp false (.v 5) (.nm 5) (.rng1 (.bi false .len (.cons (.v 0) .nil))) (.cmp .eq (.bin false .mod (.bin false .fdiv (.ix (.v 0) (.v 5)) (.call false jw (.cons (.v 3) .nil) [])) (.c (.int 2))) (.c (.int 1))) [5]) = A at hones ⊢
  generalize hB : (CE.comp false (.call false jw (.cons (.v 5) .nil) []) (.nm 5) (.lst (.v 4)) (.c (.bool true)) [5]) = B at hwts ⊢
  generalize cn G (n + 1) = C at hones hwts ⊢
  simp
  refine wp_for ⟨rngU 0 m 1, none, [.lst (nD ((tr tb m).take 0))]⟩ [.lst (nD ((tr tb m).take 0))] (fun i ρ T => T = [.lst (nD ((tr tb m).take i))] ∧ ∃ x4 x3 x5, ρ = [some (.d (.tuple (nD tb))), some (.d (.int z)), some (.ref O.length), x3, x4, x5]) ?_ ?_ (by simp) ?_ ?_
  · simp [hro, hm, nD, nI]
  · exact ⟨rfl, none, none, none, rfl⟩
  · rintro i u hu ρ T ⟨rfl, x4, x3, x5, rfl⟩
    obtain ⟨hi, rfl⟩ := rngU_get hu
    have hw0 : (0 + ((i : Nat) : Int) * 1) = ((i : Nat) : Int) := by omega
    rw [hw0]
    refine ⟨_, rfl, ?_⟩
    have hi6 : i < 6 := by omega
    have hsum := sum_nD O [.lst (nD ((tr tb m).take i))] (((List.range tb.length).filter fun d => (tb.getD d 0).testBit i).map (2 ^ ·))
    have hwt : (((List.range tb.length).filter fun d => (tb.getD d 0).testBit i).map (2 ^ ·)).sum = gm fun k => (tb.getD k 0).testBit i := wt_tr tb i hl
    rw [hwt] at hsum
    have hst : (tr tb m).take (i + 1) = (tr tb m).take i ++ [gm fun k => (tb.getD k 0).testBit i] := by
      rw [List.take_add_one]
      congr 1
      unfold tr
      rw [List.getElem?_map, List.getElem?_range hi]
      rfl
    have hw1 := hwts [.lst (nD ((tr tb m).take i))] ((List.range tb.length).filter fun d => (tb.getD d 0).testBit i) (fun x hx => by
      have := (List.mem_filter.mp hx).1
      rw [List.mem_range] at this
      omega) (Nat.le_trans (List.length_filter_le _ _) (by simpa using hl)) (some (.d (.tuple (nD tb)))) (some (.d (.int z))) (some (.ref O.length)) (some (.d (.int (i : Int)))) x5
    have hle : (nD ((tr tb m).take i)).length ≤ 1000000 := by
      have : ((tr tb m).take i).length ≤ i := List.length_take_le _ _
      simp only [nD, nI, List.length_map]
      omega
    have hon := hones [.lst (nD ((tr tb m).take i))] i hi6 (some (.d (.int z))) (some (.ref O.length)) x4 x5
    rw [hst, nD_app]
    generalize (List.range tb.length).filter (fun d => (tb.getD d 0).testBit i) = ones at hon hw1 hsum hwt
    generalize nD (ones.map (2 ^ ·)) = WW at hw1 hsum
    generalize hgm : (gm fun k => (tb.getD k 0).testBit i) = w at hsum ⊢
    generalize nD ((tr tb m).take i) = R at hw1 hon hsum hle ⊢
    have e1 : nD [w] = [.int (w : Int)] := rfl
    rw [e1]
    generalize (w : Int) = wI at hsum ⊢
    generalize (i : Int) = iI at hon hw1 ⊢
    simp [hon, hw1, hsum, hle]
  · rintro ρ T ⟨rfl, x4, x3, x5, rfl⟩
    have : (tr tb m).take m = tr tb m := List.take_of_length_le (by rw [tr_len] <;> omega)
    simp only [rngU_len]
    simp [this, seqL, mkT]
end
/-- turned twice -/
theorem tr_tr (t : List Nat) (n m : Nat) (hn : n ≤ 6) (hm : m ≤ 6) (hl : t.length = n) (hb : ∀ r ∈ t, r < 2 ^ m) : tr (tr t m) n = t := by
  apply List.ext_getElem
  · rw [tr_len, hl]
  · intro i h1 h2
    have hi6 : i < 6 := by omega
    have e : (tr (tr t m) n)[i] = gm fun o => ((tr t m).getD o 0).testBit i := by
      unfold tr
      simp
    rw [e]
    apply Nat.eq_of_testBit_eq
    intro j
    rw [gm_bit]
    by_cases hj : j < m
    · have : (tr t m).getD j 0 = gm fun k => (t.getD k 0).testBit j := by
        unfold tr
        simp [List.getD, hj]
      rw [this, gm_bit]
      have : t.getD i 0 = t[i] := by simp [List.getD, h2]
      simp [hi6, show j < 6 by omega, List.getElem?_eq_getElem h2]
    · have h0 : (tr t m).getD j 0 = 0 := by
        have : m ≤ j := by omega
        simp [List.getD, List.getElem?_eq_none (by rw [tr_len]; exact this : (tr t m).length ≤ j)]
      rw [h0]
      have hlt : t[i] < 2 ^ j := Nat.lt_of_lt_of_le (hb _ (List.getElem_mem _)) (Nat.pow_le_pow_right (by decide) (by omega))
      rw [Nat.testBit_lt_two_pow hlt]
      simp
theorem tr_in (t : List Nat) (n m : Nat) (hl : t.length = n) (hn : n ≤ 6) : ∀ r ∈ tr t m, r < 2 ^ n := by
  intro r hr
  unfold tr at hr
  rw [List.mem_map] at hr
  obtain ⟨o, _, rfl⟩ := hr
  apply Nat.lt_pow_two_of_testBit
  intro j hj
  rw [gm_bit]
  have : t.getD j 0 = 0 := by simp [List.getD, List.getElem?_eq_none (by omega : t.length ≤ j)]
  rw [this]
  simp
end Y

set_option Elab.async false
set_option linter.all false
set_option maxRecDepth 100000
set_option maxHeartbeats 4000000
namespace Y
open PySem
def pickB : CB := (.cons (.asg (.nm 3) (.ix (.lst false (.cons (.c (.int 48271)) (.cons (.c (.int 69621)) (.cons (.c (.int 39373)) (.cons (.c (.int 16807)) (.cons (.c (.int 40692)) (.cons (.c (.int 52774)) (.cons (.c (.int 33614)) .nil)))))))) (.bin false .mod (.v 1) (.c (.int 7))))) (.cons (.asg (.nm 4) (.bin false .add (.bin false .add (.bin false .mul (.bin false .mod (.v 0) (.c (.int 2147483647))) (.v 3)) (.bin false .mul (.c (.int 7919)) (.v 1))) (.c (.int 13)))) (.cons (.ret (.bin false .mod (.bin false .mod (.bin false .mul (.v 4) (.bin false .add (.bin false .mod (.v 4) (.c (.int 104729))) (.c (.int 1)))) (.ix (.lst false (.cons (.c (.int 2147483629)) (.cons (.c (.int 2147483587)) (.cons (.c (.int 2147483579)) .nil)))) (.bin false .mod (.v 1) (.c (.int 3))))) (.v 2))) .nil)))
def tableB (jp : Nat) : CB := (.cons (.asg (.nm 4) (.lst true .nil)) (.cons (.for_ (.nm 5) (.rng1 (.v 2)) (.cons (.asg (.nm 6) (.call false jp (.cons (.v 0) (.cons (.bin false .add (.v 1) (.bin false .mul (.c (.int 2)) (.v 5))) (.cons (.bin false .shl (.c (.int 1)) (.v 3)) .nil))) [])) (.cons (.ite (.cmp .gt (.call false jp (.cons (.v 0) (.cons (.bin false .add (.v 1) (.c (.int 19))) (.cons (.c (.int 3)) .nil))) []) (.c (.int 0))) (.cons (.asg (.nm 6) (.bin false .band (.v 6) (.call false jp (.cons (.v 0) (.cons (.bin false .add (.bin false .add (.v 1) (.bin false .mul (.c (.int 2)) (.v 5))) (.c (.int 1))) (.cons (.bin false .shl (.c (.int 1)) (.v 3)) .nil))) []))) .nil) .nil) (.cons (.ite (.cmp .gt (.call false jp (.cons (.v 0) (.cons (.bin false .add (.v 1) (.c (.int 20))) (.cons (.c (.int 3)) .nil))) []) (.c (.int 0))) (.cons (.asg (.nm 6) (.bin false .bor (.v 6) (.bin false .shl (.c (.int 1)) (.bin false .mod (.v 5) (.v 3))))) .nil) .nil) (.cons (.ex (.mt false .append (.v 4) (.cons (.v 6) .nil))) .nil))))) (.cons (.ret (.bi false .tuple (.cons (.v 4) .nil))) .nil)))
def edgeB (jp jt : Nat) : CB := (.cons (.asg (.tp (.cons (.nm 3) (.cons (.nm 4) .nil))) (.ix (.v 0) (.v 1))) (.cons (.asg (.nm 5) (.lst false (.cons (.bin false .add (.c (.int 1)) (.bin false .mod (.v 2) (.bin false .pow (.c (.int 10)) (.c (.int 18))))) (.cons (.bin false .add (.c (.int 1)) (.call false jp (.cons (.v 2) (.cons (.c (.int 2)) (.cons (.c (.int 9)) .nil))) [])) (.cons (.bin false .sub (.bin false .pow (.c (.int 10)) (.c (.int 18))) (.call false jp (.cons (.v 2) (.cons (.c (.int 8)) (.cons (.c (.int 2)) .nil))) [])) .nil))))) (.cons (.asg (.nm 6) (.ix (.v 5) (.call false jp (.cons (.v 2) (.cons (.c (.int 3)) (.cons (.c (.int 3)) .nil))) []))) (.cons (.asg (.nm 7) (.tup (.cons (.call false jp (.cons (.v 2) (.cons (.c (.int 4)) (.cons (.v 3) .nil))) []) (.cons (.call false jp (.cons (.v 2) (.cons (.c (.int 5)) (.cons (.v 3) .nil))) []) (.cons (.v 6) .nil))))) (.cons (.ite (.cmp .lt (.call false jp (.cons (.v 2) (.cons (.c (.int 6)) (.cons (.c (.int 5)) .nil))) []) (.c (.int 3))) (.cons (.ret (.bin false .add (.bin false .add (.tup (.cons (.c (.str "step")) .nil)) (.v 7)) (.tup (.cons (.call false jt (.cons (.v 2) (.cons (.c (.int 30)) (.cons (.v 4) (.cons (.v 4) .nil)))) []) .nil)))) .nil) .nil) (.cons (.asg (.nm 8) (.call false jp (.cons (.v 2) (.cons (.c (.int 7)) (.cons (.bi false .len (.cons (.v 0) .nil)) .nil))) [])) (.cons (.asg (.nm 9) (.call false jt (.cons (.v 2) (.cons (.c (.int 60)) (.cons (.v 4) (.cons (.ix (.ix (.v 0) (.v 8)) (.c (.int 1))) .nil)))) [])) (.cons (.asg (.nm 10) (.call false jt (.cons (.v 2) (.cons (.c (.int 90)) (.cons (.ix (.ix (.v 0) (.v 8)) (.c (.int 1))) (.cons (.v 4) .nil)))) [])) (.cons (.ret (.bin false .add (.bin false .add (.tup (.cons (.c (.str "call")) .nil)) (.v 7)) (.tup (.cons (.v 8) (.cons (.v 9) (.cons (.v 10) (.cons (.call false jt (.cons (.v 2) (.cons (.c (.int 120)) (.cons (.v 4) (.cons (.v 4) .nil)))) []) .nil))))))) .nil)))))))))
def chartB (jp je : Nat) : CB := (.cons (.asg (.nm 2) (.ix (.lst false (.cons (.tup (.cons (.c (.int 3)) (.cons (.c (.int 4)) (.cons (.c (.int 4)) .nil)))) (.cons (.tup (.cons (.c (.int 6)) (.cons (.c (.int 10)) (.cons (.c (.int 6)) .nil)))) .nil))) (.bi false .int (.cons (.cmp .eq (.call false jp (.cons (.v 1) (.cons (.c (.int 0)) (.cons (.c (.int 6)) .nil))) []) (.c (.int 1))) .nil)))) (.cons (.asg (.nm 3) (.lst true .nil)) (.cons (.for_ (.nm 4) (.rng1 (.bin false .add (.c (.int 1)) (.call false jp (.cons (.v 1) (.cons (.c (.int 1)) (.cons (.ix (.v 2) (.c (.int 0))) .nil))) []))) (.cons (.ex (.mt false .append (.v 3) (.cons (.tup (.cons (.bin false .add (.c (.int 1)) (.call false jp (.cons (.v 1) (.cons (.bin false .add (.c (.int 10)) (.bin false .mul (.c (.int 2)) (.v 4))) (.cons (.ix (.v 2) (.c (.int 1))) .nil))) [])) (.cons (.bin false .add (.c (.int 1)) (.call false jp (.cons (.v 1) (.cons (.bin false .add (.c (.int 11)) (.bin false .mul (.c (.int 2)) (.v 4))) (.cons (.ix (.v 2) (.c (.int 2))) .nil))) [])) .nil))) .nil))) .nil)) (.cons (.asg (.nm 5) (.comp true (.lst true .nil) (.nm 8) (.lst (.v 3)) (.c (.bool true)) [8])) (.cons (.for_ (.tp (.cons (.nm 6) (.cons (.nm 7) .nil))) (.enumL (.slc false (.v 0) .skip (.c (.int 24)))) (.cons (.asg (.nm 4) (.call false jp (.cons (.v 7) (.cons (.c (.int 1)) (.cons (.bi false .len (.cons (.v 3) .nil)) .nil))) [])) (.cons (.ex (.mt false .append (.ix (.v 5) (.v 4)) (.cons (.call false je (.cons (.v 3) (.cons (.v 4) (.cons (.bin false .add (.v 7) (.bin false .mul (.c (.int 31)) (.v 6))) .nil))) []) .nil))) .nil))) (.cons (.ret (.comp false (.tup (.cons (.ix (.ix (.v 3) (.v 4)) (.c (.int 0))) (.cons (.ix (.ix (.v 3) (.v 4)) (.c (.int 1))) (.cons (.frz (.ix (.v 5) (.v 4))) .nil)))) (.nm 4) (.rng1 (.bi false .len (.cons (.v 3) .nil))) (.c (.bool true)) [4])) .nil))))))
theorem atI_mem {α : Type} (xs : List α) (i : Int) (h : 0 ≤ i) (h2 : i < xs.length) : ∃ x, L2.atI xs i = some x ∧ x ∈ xs := by
  rw [atI_nat xs i h h2]
  have : i.toNat < xs.length := by omega
  exact ⟨xs[i.toNat], List.getElem?_eq_getElem this, List.getElem_mem _⟩
def PickOk (C : Cn) (jp : Nat) : Prop := ∀ (O T : Cs) (c k m : Int), 0 < m → ∃ r : Int, 0 ≤ r ∧ r < m ∧ callP C O jp [.d (.int c), .d (.int k), .d (.int m)] T = .ok (.d (.int r)) T
theorem pick_run {G : Pg} {jp : Nat} (hG : G.defs jp = some ⟨3, 5, pickB⟩) (n : Nat) : PickOk (cn G (n + 1)) jp := by
  intro O T c k many hm
  obtain ⟨x, hx, mx⟩ := atI_mem ([.int 48271, .int 69621, .int 39373, .int 16807, .int 40692, .int 52774, .int 33614] : List D) (k % 7) (by omega) (by simp; omega)
  obtain ⟨y, hy, my⟩ := atI_mem ([.int 2147483629, .int 2147483587, .int 2147483579] : List D) (k % 3) (by omega) (by simp; omega)
  obtain ⟨b, rfl⟩ : ∃ b, x = .int b := by
    simp only [List.mem_cons, List.not_mem_nil, or_false] at mx
    rcases mx with rfl | rfl | rfl | rfl | rfl | rfl | rfl <;> exact ⟨_, rfl⟩
  obtain ⟨d, rfl, hd⟩ : ∃ d, y = .int d ∧ 0 < d := by
    simp only [List.mem_cons, List.not_mem_nil, or_false] at my
    rcases my with rfl | rfl | rfl <;> exact ⟨_, rfl, by decide⟩
  refine ⟨((c % 2147483647 * b + 7919 * k + 13) * ((c % 2147483647 * b + 7919 * k + 13) % 104729 + 1) % d % many), Int.emod_nonneg _ (by omega), Int.emod_lt_of_pos _ hm, callP_r O T (T' := []) ?_⟩
  refine Gv.eq (run_wp hG rfl ?_)
  have m1 : mulOk (c % 2147483647) b = true := mul_okL (by omega)
  have m2 : mulOk 7919 k = true := mul_okL (by omega)
  have m3 : mulOk (c % 2147483647 * b + 7919 * k + 13) ((c % 2147483647 * b + 7919 * k + 13) % 104729 + 1) = true := mul_ok (by omega)
  simp [pickB, hx, hy, m1, m2, m3, hd, hm]
theorem snocN (l : List Nat) (r : Int) (h : 0 ≤ r) : nD l ++ [.int r] = nD (l ++ [r.toNat]) := by
  rw [nD_app]
  simp [nD, nI, Int.toNat_of_nonneg h]
theorem band_b {a b m : Int} (ha : 0 ≤ a) (ha2 : a < m) (hb : 0 ≤ b) : 0 ≤ Builtin.bitAnd a b ∧ Builtin.bitAnd a b < m := by
  obtain ⟨x, rfl⟩ := Int.eq_ofNat_of_zero_le ha
  obtain ⟨y, rfl⟩ := Int.eq_ofNat_of_zero_le hb
  rw [bitAnd_n]
  have : x &&& y ≤ x := Nat.and_le_left
  omega
theorem bor_b {a b : Int} {t : Nat} (ha : 0 ≤ a) (ha2 : a < 2 ^ t) (hb : 0 ≤ b) (hb2 : b < 2 ^ t) : 0 ≤ Builtin.bitOr a b ∧ Builtin.bitOr a b < 2 ^ t := by
  obtain ⟨x, rfl⟩ := Int.eq_ofNat_of_zero_le ha
  obtain ⟨y, rfl⟩ := Int.eq_ofNat_of_zero_le hb
  rw [bitOr_n]
  have e : ((2 : Int) ^ t) = ((2 ^ t : Nat) : Int) := by simp
  rw [e] at ha2 hb2 ⊢
  have : x ||| y < 2 ^ t := Nat.or_lt_two_pow (by omega) (by omega)
  omega
theorem pow_b {a : Nat} {t : Nat} (h : a < t) : (0 : Int) ≤ 2 ^ a ∧ (2 : Int) ^ a < 2 ^ t := by
  have e : ∀ n : Nat, ((2 : Int) ^ n) = ((2 ^ n : Nat) : Int) := fun n => by simp
  rw [e a, e t]
  have : 2 ^ a < 2 ^ t := Nat.pow_lt_pow_right (by decide) h
  exact ⟨Int.natCast_nonneg _, Int.ofNat_lt.mpr this⟩
def TbIn (tb : List Nat) (many to : Int) : Prop := tb.length = many.toNat ∧ ∀ r ∈ tb, r < 2 ^ to.toNat
def TableOk (C : Cn) (jt : Nat) : Prop := ∀ (O T : Cs) (c k nn to : Int), 0 ≤ nn → nn ≤ 6 → 1 ≤ to → to ≤ 6 → ∃ tb : List Nat, TbIn tb nn to ∧ callP C O jt [.d (.int c), .d (.int k), .d (.int nn), .d (.int to)] T = .ok (.d (.tuple (nD tb))) T
theorem table_run {G : Pg} {jp jt : Nat} (hG : G.defs jt = some ⟨4, 7, tableB jp⟩) (n : Nat) (hp : PickOk (cn G n) jp) : TableOk (cn G (n + 1)) jt := by
  intro O T c k nn to n0 n6 t1 t6
  suffices hg : Gv (Y.run G (n + 1) (O ++ T) jt [.d (.int c), .d (.int k), .d (.int nn), .d (.int to)] []) fun u T' => ∃ tb : List Nat, TbIn tb nn to ∧ u = .d (.tuple (nD tb)) by
    obtain ⟨u, T', e, tb, htb, rfl⟩ := hg.ex
    exact ⟨tb, htb, callP_r O T e⟩
  refine run_wp hG rfl ?_
  generalize O ++ T = O
  generalize cn G n = C at hp
  have hro : rngOk 0 nn = true := by simp [rngOk]; omega
  simp only [tableB]
  simp
  refine wp_for ⟨rngU 0 nn.toNat 1, none, [.lst []]⟩ [.lst []] (fun i ρ T => ∃ (rows : List Nat) (x y : Option U), T = [.lst (nD rows)] ∧ rows.length = i ∧ (∀ r ∈ rows, r < 2 ^ to.toNat) ∧ ρ = [some (.d (.int c)), some (.d (.int k)), some (.d (.int nn)), some (.d (.int to)), some (.ref O.length), x, y]) ?_ ?_ (by simp) ?_ ?_
  · simp [hro]
  · exact ⟨[], none, none, rfl, rfl, by simp, rfl⟩
  · rintro i u hu ρ T ⟨rows, x, y, rfl, hrl, hrb, rfl⟩
    obtain ⟨hi, rfl⟩ := rngU_get hu
    obtain ⟨iI, hiI⟩ : ∃ iI : Int, iI = (i : Int) := ⟨_, rfl⟩
    have hw0 : (0 + ((i : Nat) : Int) * 1) = iI := by omega
    rw [hw0]
    refine ⟨_, rfl, ?_⟩
    have hlen : (nD rows).length ≤ 1000000 := by simp [nD, nI]; omega
    have hsn : ∀ v : Int, 0 ≤ v → v < 2 ^ to.toNat → ∃ rows' : List Nat, nD rows ++ [.int v] = nD rows' ∧ rows'.length = i + 1 ∧ ∀ r ∈ rows', r < 2 ^ to.toNat := by
      intro v v0 v1
      refine ⟨rows ++ [v.toNat], snocN rows v v0, by simp [hrl], fun r hr => ?_⟩
      rw [List.mem_append] at hr
      rcases hr with hr | hr
      · exact hrb r hr
      · simp at hr
        subst hr
        have e : ((2 : Int) ^ to.toNat) = ((2 ^ to.toNat : Nat) : Int) := by simp
        rw [e] at v1
        omega
    have hi0 : 0 ≤ iI := by omega
    clear hu hrb hrl hw0
    generalize nD rows = R at hsn hlen
    have hM : (0 : Int) < 2 ^ to.toNat := Int.pow_pos (by decide)
    obtain ⟨r0, a0, a1, e0⟩ := hp O [.lst R] c (k + 2 * iI) (2 ^ to.toNat) hM
    obtain ⟨r1, b0, b1, e1⟩ := hp O [.lst R] c (k + 19) 3 (by decide)
    obtain ⟨r2, c0, c1, e2⟩ := hp O [.lst R] c (k + 2 * iI + 1) (2 ^ to.toNat) hM
    obtain ⟨r3, d0, d1, e3⟩ := hp O [.lst R] c (k + 20) 3 (by decide)
    have m1 : mulOk 2 iI = true := mul_okL (by omega)
    have hto : 0 ≤ to ∧ to ≤ 1000 := by omega
    have ht0 : 0 < to := by omega
    have hmod : 0 ≤ iI % to ∧ iI % to ≤ 1000 := ⟨Int.emod_nonneg _ (by omega), by have := Int.emod_lt_of_pos iI ht0; omega⟩
    have hpw := pow_b (a := (iI % to).toNat) (t := to.toNat) (by have := Int.emod_lt_of_pos iI ht0; omega)
    simp [m1, hto, ht0, hmod, e0, e1, e2, e3, hlen]
    have q1 := band_b a0 a1 c0
    refine ⟨fun _ => ⟨fun _ => ?_, fun _ => ?_⟩, fun _ => ⟨fun _ => ?_, fun _ => ?_⟩⟩
    · have := bor_b q1.1 q1.2 hpw.1 hpw.2
      exact hsn _ this.1 this.2
    · exact hsn _ q1.1 q1.2
    · have := bor_b a0 a1 hpw.1 hpw.2
      exact hsn _ this.1 this.2
    · exact hsn _ a0 a1
  · rintro ρ T ⟨rows, x, y, rfl, hrl, hrb, rfl⟩
    simp only [rngU_len] at hrl
    simp [seqL, mkT]
    exact ⟨rows, ⟨hrl, hrb⟩, rfl⟩
inductive Ed where
  | st (p q c : Int) (t : List Nat)
  | ca (p q c g : Int) (a b t : List Nat)
def Ed.d : Ed → D
  | .st p q c t => .tuple [.str "step", .int p, .int q, .int c, .tuple (nD t)]
  | .ca p q c g a b t => .tuple [.str "call", .int p, .int q, .int c, .int g, .tuple (nD a), .tuple (nD b), .tuple (nD t)]
abbrev Sz := List (Int × Int)
def szD (s : Sz) : List D := s.map fun p => .tuple [.int p.1, .int p.2]
def SzOk (s : Sz) : Prop := (1 ≤ s.length ∧ s.length ≤ 6) ∧ ∀ p ∈ s, 1 ≤ p.1 ∧ p.1 ≤ 10 ∧ 1 ≤ p.2 ∧ p.2 ≤ 6
def HeadOk (P p q c : Int) : Prop := 0 ≤ p ∧ p < P ∧ 0 ≤ q ∧ q < P ∧ 1 ≤ c ∧ c ≤ 1000000000000000000
def EdOk (s : Sz) (f : Nat) : Ed → Prop
  | .st p q c t => ∃ P n, s[f]? = some (P, n) ∧ HeadOk P p q c ∧ TbIn t n n
  | .ca p q c g a b t => ∃ P n Q m, s[f]? = some (P, n) ∧ 0 ≤ g ∧ g < s.length ∧ s[g.toNat]? = some (Q, m) ∧ HeadOk P p q c ∧ TbIn a n m ∧ TbIn b m n ∧ TbIn t n n
theorem sz_at {s : Sz} (h : SzOk s) {f : Int} (h0 : 0 ≤ f) (h1 : f < s.length) : ∃ P n : Int, s[f.toNat]? = some (P, n) ∧ (1 ≤ P ∧ P ≤ 10 ∧ 1 ≤ n ∧ n ≤ 6) ∧ L2.atI (szD s) f = some (.tuple [.int P, .int n]) := by
  have hlt : f.toNat < s.length := by omega
  refine ⟨s[f.toNat].1, s[f.toNat].2, List.getElem?_eq_getElem hlt, h.2 _ (List.getElem_mem _), ?_⟩
  rw [atI_nat _ _ h0 (by simpa [szD] using h1)]
  simp [szD, List.getElem?_eq_getElem hlt]
theorem ixU_at {O T : Cs} {r : Nat} {ds : List D} {i : Int} {x : D} (h : getC O T r = some (.lst ds)) (hx : L2.atI ds i = some x) : ixU O (.ref r) (.d (.int i)) T = some (.d x) := by
  unfold ixU
  simp only [h, hx]
  rfl
theorem ixU_atU {O T : Cs} {r : Nat} {us : List U} {i : Int} {x : U} (h : getC O T r = some (.lstU us)) (hx : L2.atI us i = some x) : ixU O (.ref r) (.d (.int i)) T = some x := by
  unfold ixU
  simp only [h, hx]
theorem lenB_ref {O T : Cs} {r : Nat} {ds : List D} (h : getC O T r = some (.lst ds)) : lenB O T (.ref r) = .ok (.d (.int ds.length)) T := by
  unfold lenB seqA
  simp [h]
theorem lenB_refU {O T : Cs} {r : Nat} {us : List U} (h : getC O T r = some (.lstU us)) : lenB O T (.ref r) = .ok (.d (.int us.length)) T := by
  unfold lenB seqA
  simp [h]
theorem getC_O (O T : Cs) (r : Nat) : getC (O ++ T) [] r = getC O T r := by
  rw [getC_eq, getC_eq, List.append_nil]
def EdgeOk (C : Cn) (je : Nat) : Prop := ∀ (O T : Cs) (r : Nat) (s : Sz) (f c : Int), SzOk s → getC O T r = some (.lst (szD s)) → 0 ≤ f → f < s.length → ∃ e : Ed, EdOk s f.toNat e ∧ callP C O je [.ref r, .d (.int f), .d (.int c)] T = .ok (.d e.d) T
theorem edge_run {G : Pg} {jp jt je : Nat} (hG : G.defs je = some ⟨3, 11, edgeB jp jt⟩) (n : Nat) (hp : PickOk (cn G n) jp) (ht : TableOk (cn G n) jt) : EdgeOk (cn G (n + 1)) je := by
  intro O T r s f c hs hr f0 f1
  suffices hg : Gv (Y.run G (n + 1) (O ++ T) je [.ref r, .d (.int f), .d (.int c)] []) fun u T' => ∃ e : Ed, EdOk s f.toNat e ∧ u = .d e.d by
    obtain ⟨u, T', e, ed, h1, rfl⟩ := hg.ex
    exact ⟨ed, h1, callP_r O T e⟩
  refine run_wp hG rfl ?_
  rw [← getC_O] at hr
  generalize O ++ T = O at hr
  generalize cn G n = C at hp ht
  obtain ⟨P, m, hf, hb, hx⟩ := sz_at hs f0 f1
  obtain ⟨s1, s6⟩ := hs.1
  obtain ⟨r2, a20, a21, e2⟩ := hp O [] c 2 9 (by decide)
  obtain ⟨r8, a80, a81, e8⟩ := hp O [] c 8 2 (by decide)
  obtain ⟨r3, a30, a31, e3⟩ := hp O [] c 3 3 (by decide)
  obtain ⟨r4, a40, a41, e4⟩ := hp O [] c 4 P (by omega)
  obtain ⟨r5, a50, a51, e5⟩ := hp O [] c 5 P (by omega)
  obtain ⟨r6, a60, a61, e6⟩ := hp O [] c 6 5 (by decide)
  obtain ⟨r7, a70, a71, e7⟩ := hp O [] c 7 s.length (by omega)
  obtain ⟨Q, k, hg, hbg, hxg⟩ := sz_at hs a70 a71
  obtain ⟨t1, b1, c1⟩ := ht O [] c 30 m m (by omega) (by omega) (by omega) (by omega)
  obtain ⟨t2, b2, c2⟩ := ht O [] c 60 m k (by omega) (by omega) (by omega) (by omega)
  obtain ⟨t3, b3, c3⟩ := ht O [] c 90 k m (by omega) (by omega) (by omega) (by omega)
  obtain ⟨t4, b4, c4⟩ := ht O [] c 120 m m (by omega) (by omega) (by omega) (by omega)
  obtain ⟨v, hv, mv⟩ := atI_mem ([.int (1 + c % 1000000000000000000), .int (1 + r2), .int (1000000000000000000 - r8)] : List D) r3 a30 (by simpa using a31)
  obtain ⟨w, rfl, hw⟩ : ∃ w, v = .int w ∧ 1 ≤ w ∧ w ≤ 1000000000000000000 := by
    simp only [List.mem_cons, List.not_mem_nil, or_false] at mv
    rcases mv with rfl | rfl | rfl
    · exact ⟨_, rfl, by omega⟩
    · exact ⟨_, rfl, by omega⟩
    · exact ⟨_, rfl, by omega⟩
  have hln : (szD s).length = s.length := by simp [szD]
  have h18 : ((10 : Int) ^ (18 : Int).toNat) = 1000000000000000000 := by decide
  have hst : EdOk s f.toNat (.st r4 r5 w t1) := ⟨P, m, hf, ⟨a40, a41, a50, a51, hw.1, hw.2⟩, b1⟩
  have hca : EdOk s f.toNat (.ca r4 r5 w r7 t2 t3 t4) := ⟨P, m, Q, k, hf, a70, a71, hg, ⟨a40, a41, a50, a51, hw.1, hw.2⟩, b2, b3, b4⟩
  have ix0 : ixU O (.ref r) (.d (.int f)) [] = some (.d (.tuple [.int P, .int m])) := by
    exact ixU_at hr hx
  have ix7 : ixU O (.ref r) (.d (.int r7)) [] = some (.d (.tuple [.int Q, .int k])) := by
    exact ixU_at hr hxg
  have len0 : lenB O [] (.ref r) = .ok (.d (.int s.length)) [] := by
    rw [lenB_ref hr, hln]
  have at1 : ∀ a b : Int, L2.atI [PyData.int a, PyData.int b] 1 = some (.int b) := fun a b => rfl
  clear hs hr hx hxg hf hg hln mv
  generalize s.length = ln at *
  simp only [edgeB]
  simp [ix0, ix7, len0, e2, e3, e4, e5, e6, e7, e8, c1, c2, c3, c4, hv, at1]
  exact ⟨fun _ => ⟨_, hst, rfl⟩, fun _ => ⟨_, hca, rfl⟩⟩
theorem compC_st {f : U → Cs → R (Option U)} {ok : Cs → Bool} {n : Nat} : ∀ (us : List U) (St : Nat → Cs), (∀ i u, us[i]? = some u → ok (St i) = true ∧ ∃ oy T', f u (St i) = .ok oy T' ∧ putC n oy T' = .ok () (St (i + 1))) → ok (St us.length) = true → compC f ok n us (St 0) = .ok () (St us.length)
  | [], St, _, he => by
    have he : ok (St 0) = true := he
    rw [compC, if_pos he]
    rfl
  | u :: us, St, h, he => by
    obtain ⟨h1, oy, T', h2, h3⟩ := h 0 u rfl
    rw [compC, if_pos h1, h2, R.bind_ok, h3, R.bind_ok]
    exact compC_st us (fun i => St (i + 1)) (fun i v hv => h (i + 1) v hv) he
theorem comp_st {C : Cn} {O T T0 : Cs} {ρ : Rho} {elt t : CE} {g : Tg} {it : IT} {own : List Nat} {us : List U} {w : Option Nat} {tt : Cs} {live : Bool} (St : Nat → Cs) (he : denI C O ρ it T = .ok ⟨us, w, tt⟩ T0) (h0 : St 0 = T0 ++ [.lstU []])
    (h : ∀ i u, us[i]? = some u → sameW O tt (St i) w = true ∧ ∃ ρ1, asgT O (St i) g u (wipeR ρ own) = some ρ1 ∧ den C O ρ1 t (St i) = .ok (.d (.bool true)) (St i) ∧ ∃ y T', den C O ρ1 elt (St i) = .ok y T' ∧ putC T0.length (some y) T' = .ok () (St (i + 1)))
    (hE : sameW O tt (St us.length) w = true) : den C O ρ (.comp live elt g it t own) T = compE O live T0 (St us.length) := by
  rw [den, he, R.bind_ok]
  have k := compC_st (f := fun u T => match asgT O T g u (wipeR ρ own) with
        | some ρ' => (den C O ρ' t T).bind fun b T => brB (asB b) ((den C O ρ' elt T).bind fun y T => .ok (some y) T) (.ok none T)
        | none => .fail) (ok := fun T' => sameW O tt T' w) (n := T0.length) us St (fun i u hu => by
    obtain ⟨h1, ρ1, e1, e2, y, T', e3, e4⟩ := h i u hu
    refine ⟨h1, some y, T', ?_, e4⟩
    simp only [e1, e2, e3, R.bind_ok, asB_bool, brB_t]) hE
  rw [h0] at k
  exact (congrArg (fun r : R Unit => r.bind fun _ T' => compE O live T0 T') k).trans rfl
theorem putC_at {n : Nat} {y : U} {T : Cs} {acc : List U} (h : T[n]? = some (.lstU acc)) (hl : acc.length ≤ 1000000) : putC n (some y) T = .ok () (T.set n (.lstU (acc ++ [y]))) := by
  unfold putC
  simp [h, hl]
abbrev Ch := List (Int × Int × List Ed)
def chSz (ch : Ch) : Sz := ch.map fun x => (x.1, x.2.1)
def chD (ch : Ch) : List D := ch.map fun x => .tuple [.int x.1, .int x.2.1, .list (x.2.2.map Ed.d)]
def manyE (ch : Ch) : Nat := (ch.map fun x => x.2.2.length).sum
def ChOk (ch : Ch) : Prop := SzOk (chSz ch) ∧ (∀ f x, ch[f]? = some x → ∀ e ∈ x.2.2, EdOk (chSz ch) f e) ∧ manyE ch ≤ 24
def lstE (es : List Ed) : Cell := .lst (es.map Ed.d)
def refs (n m : Nat) : List U := (List.range m).map fun j => U.ref (n + (2 + j))
theorem refs_len (n m : Nat) : (refs n m).length = m := by simp [refs]
theorem refs_S (n m : Nat) : refs n (m + 1) = refs n m ++ [.ref (n + (2 + m))] := by
  simp [refs, List.range_succ]
theorem refs_at (n m : Nat) (f : Int) (h0 : 0 ≤ f) (h1 : f < m) : L2.atI (refs n m) f = some (.ref (n + (2 + f.toNat))) := by
  rw [atI_nat _ _ h0 (by rw [refs_len]; exact h1)]
  have : f.toNat < m := by omega
  simp [refs, this]
theorem refs_cell {n m : Nat} (h : 0 < m) : cellOf (refs n m) = .lstU (refs n m) := by
  unfold cellOf
  cases m with
  | zero => omega
  | succ m =>
    have : allD (refs n (m + 1)) = none := by
      unfold refs
      rw [List.range_succ_eq_map]
      rfl
    rw [this]
section
variable {C : Cn} {O : Cs} {jp je : Nat}
/-- the empty lists -/
theorem edges0 (s : Sz) (hs : SzOk s) (ρ : Rho) (h3 : ρ[3]? = some (some (.ref O.length))) (h8 : 8 < ρ.length) : den C O ρ (.comp true (.lst true .nil) (.nm 8) (.lst (.v 3)) (.c (.bool true)) [8]) [.lst (szD s)] = .ok (.ref (O.length + 1)) (.lst (szD s) :: .lstU (refs O.length s.length) :: List.replicate s.length (lstE [])) := by
  have hln : (szD s).length = s.length := by simp [szD]
  have hsq : seqL O [.lst (szD s)] (.ref O.length) = some ((szD s).map .d) := by simp
  have k := comp_st (C := C) (O := O) (T := [.lst (szD s)]) (T0 := [.lst (szD s)]) (ρ := ρ) (elt := .lst true .nil) (t := .c (.bool true)) (g := .nm 8) (it := .lst (.v 3)) (own := [8]) (us := (szD s).map .d) (w := some O.length) (tt := [.lst (szD s)]) (live := true)
    (fun i => .lst (szD s) :: .lstU (refs O.length i) :: List.replicate i (lstE [])) (by
      rw [denI, den_v, h3]
      simp only [R.bind_ok, hsq]
      rfl) (by rfl) (by
      intro i u hu
      have hi : i < s.length := by
        have := (List.getElem?_eq_some_iff.mp hu).1
        simpa [hln] using this
      refine ⟨sameW_refl (c := .lst (szD s)) (by simp) (by simp) (.inl ⟨_, rfl⟩), _, rfl, by simp, .ref (O.length + (2 + i)), .lst (szD s) :: .lstU (refs O.length i) :: (List.replicate i (lstE []) ++ [lstE []]), ?_, ?_⟩
      · simp [lstE]
        omega
      · rw [putC_at (acc := refs O.length i) rfl (by rw [refs_len]; have := hs.1.2; omega)]
        simp only [List.length_cons, List.length_nil, List.set_cons_succ, List.set_cons_zero, refs_S, List.replicate_succ']) (sameW_refl (c := .lst (szD s)) (by simp) (by simp) (.inl ⟨_, rfl⟩))
  rw [k]
  simp only [List.length_map, hln]
  have e5 : (Cell.lst (szD s) :: .lstU (refs O.length s.length) :: List.replicate s.length (lstE []))[[Cell.lst (szD s)].length]? = some (.lstU (refs O.length s.length)) := rfl
  unfold compE
  simp only [e5]
  rw [if_pos trivial, refs_cell (by have := hs.1.1; omega)]
  rfl
theorem end_elt (ρ : Rho) (T T' : Cs) (i : Int) (j : Nat) (sz : List D) (rf : List U) (P n : Int) (es : List D) (h3 : ρ[3]? = some (some (.ref O.length))) (h5 : ρ[5]? = some (some (.ref (O.length + 1)))) (h4 : 4 < ρ.length)
    (g0 : getC O T O.length = some (.lst sz)) (hx : L2.atI sz i = some (.tuple [.int P, .int n])) (g1 : getC O T (O.length + 1) = some (.lstU rf)) (hre : L2.atI rf i = some (.ref (O.length + j))) (gj : getC O T (O.length + j) = some (.lst es)) (hlt : j < T.length) (hS : T.set j .dead = T') :
    den C O ((wipeR ρ [4]).set 4 (some (.d (.int i)))) (.tup (.cons (.ix (.ix (.v 3) (.v 4)) (.c (.int 0))) (.cons (.ix (.ix (.v 3) (.v 4)) (.c (.int 1))) (.cons (.frz (.ix (.v 5) (.v 4))) .nil)))) T = .ok (.d (.tuple [.int P, .int n, .list es])) T' := by
  have a0 : ixU O (.ref O.length) (.d (.int i)) T = some (.d (.tuple [.int P, .int n])) := ixU_at g0 hx
  have a1 : ixU O (.ref (O.length + 1)) (.d (.int i)) T = some (.ref (O.length + j)) := ixU_atU g1 hre
  have b0 : L2.atI [PyData.int P, PyData.int n] 0 = some (.int P) := rfl
  have b1 : L2.atI [PyData.int P, PyData.int n] 1 = some (.int n) := rfl
  have hf : frzU O (.ref (O.length + j)) T = .ok (.d (.list es)) T' := by
    unfold frzU
    simp [gj, hlt, hS]
  have q3 : ((wipeR ρ [4]).set 4 (some (U.d (.int i))))[3]? = some (some (.ref O.length)) := by simp [wipeR, h3]
  have q5 : ((wipeR ρ [4]).set 4 (some (U.d (.int i))))[5]? = some (some (.ref (O.length + 1))) := by simp [wipeR, h5]
  have q4 : ((wipeR ρ [4]).set 4 (some (U.d (.int i))))[4]? = some (some (.d (.int i))) := by simp [wipeR, h4]
  generalize (wipeR ρ [4]).set 4 (some (U.d (.int i))) = ρ' at q3 q4 q5 ⊢
  simp [q3, q4, q5, a0, a1, b0, b1, hf]
/-- the chart, made of its lists -/
theorem chart_end (s : Sz) (hs : SzOk s) (ess : List (List Ed)) (hl : ess.length = s.length) (ρ : Rho) (h3 : ρ[3]? = some (some (.ref O.length))) (h5 : ρ[5]? = some (some (.ref (O.length + 1)))) (h4 : 4 < ρ.length) :
    ∃ T', den C O ρ (.comp false (.tup (.cons (.ix (.ix (.v 3) (.v 4)) (.c (.int 0))) (.cons (.ix (.ix (.v 3) (.v 4)) (.c (.int 1))) (.cons (.frz (.ix (.v 5) (.v 4))) .nil)))) (.nm 4) (.rng1 (.bi false .len (.cons (.v 3) .nil))) (.c (.bool true)) [4]) (.lst (szD s) :: .lstU (refs O.length s.length) :: ess.map lstE) = .ok (.d (.list (chD ((s.zip ess).map fun p => (p.1.1, p.1.2, p.2))))) T' := by
  have hln : (szD s).length = s.length := by simp [szD]
  obtain ⟨s1, s6⟩ := hs.1
  have len0 : ∀ T, lenB O (.lst (szD s) :: T) (.ref O.length) = .ok (.d (.int s.length)) (.lst (szD s) :: T) := by
    intro T
    rw [lenB_ref (ds := szD s) (by simp), hln]
  have hro : rngOk 0 (s.length : Int) = true := by simp [rngOk]; omega
  have hcl : (chD ((s.zip ess).map fun p => (p.1.1, p.1.2, p.2))).length = s.length := by simp [chD, hl]
  generalize hR : chD ((s.zip ess).map fun p => (p.1.1, p.1.2, p.2)) = Rs at hcl
  have k := comp_st (C := C) (O := O) (T := .lst (szD s) :: .lstU (refs O.length s.length) :: ess.map lstE) (T0 := .lst (szD s) :: .lstU (refs O.length s.length) :: ess.map lstE) (ρ := ρ) (elt := .tup (.cons (.ix (.ix (.v 3) (.v 4)) (.c (.int 0))) (.cons (.ix (.ix (.v 3) (.v 4)) (.c (.int 1))) (.cons (.frz (.ix (.v 5) (.v 4))) .nil)))) (t := .c (.bool true)) (g := .nm 4) (it := .rng1 (.bi false .len (.cons (.v 3) .nil))) (own := [4]) (us := rngU 0 s.length 1) (w := none) (tt := .lst (szD s) :: .lstU (refs O.length s.length) :: ess.map lstE) (live := false)
    (fun i => .lst (szD s) :: .lstU (refs O.length s.length) :: ((List.replicate i .dead ++ (ess.drop i).map lstE) ++ [.lstU ((Rs.take i).map .d)])) (by
      refine rng1_ok (z := (s.length : Int)) ?_ hro (by simp)
      rw [den_bi, denA_cons, den_v, h3]
      simp only [R.bind_ok, denA_nil, biU_len, one_one, len0]) (by simp) (by
      intro i u hu
      obtain ⟨hi, rfl⟩ := rngU_get hu
      have hu0 : (0 + ((i : Nat) : Int) * 1) = ((i : Nat) : Int) := by omega
      rw [hu0]
      obtain ⟨P, n, hf, hb, hx⟩ := sz_at hs (f := (i : Int)) (by omega) (by omega)
      have hie : i < ess.length := by omega
      have hes : ess[i]? = some ess[i] := List.getElem?_eq_getElem hie
      have hd : ess.drop i = ess[i] :: ess.drop (i + 1) := List.drop_eq_getElem_cons hie
      have hri : Rs[i]? = some (.tuple [.int P, .int n, .list ((ess[i]).map Ed.d)]) := by
        rw [← hR]
        have hf' : s[i]? = some (P, n) := by simpa using hf
        have hz : (s.zip ess)[i]? = some ((P, n), ess[i]) := List.getElem?_zip_eq_some.mpr ⟨hf', hes⟩
        simp [chD, hz]
      generalize hE : ess[i] = es at *
      refine ⟨rfl, _, rfl, by simp, .d (.tuple [.int P, .int n, .list (es.map Ed.d)]), .lst (szD s) :: .lstU (refs O.length s.length) :: ((List.replicate (i + 1) .dead ++ (ess.drop (i + 1)).map lstE) ++ [.lstU ((Rs.take i).map .d)]), ?_, ?_⟩
      · have hre := refs_at O.length s.length (i : Int) (by omega) (by omega)
        simp only [Int.toNat_natCast] at hre
        have hT : (.lst (szD s) :: .lstU (refs O.length s.length) :: ((List.replicate i .dead ++ (ess.drop i).map lstE) ++ [.lstU ((Rs.take i).map .d)]) : Cs)[2 + i]? = some (.lst (es.map Ed.d)) := by
          rw [hd, Nat.add_comm 2 i]
          simp only [List.getElem?_cons_succ, List.append_assoc]
          rw [List.getElem?_append_right (by simp)]
          simp [lstE]
        have hS : (.lst (szD s) :: .lstU (refs O.length s.length) :: ((List.replicate i .dead ++ (ess.drop i).map lstE) ++ [.lstU ((Rs.take i).map .d)]) : Cs).set (2 + i) .dead = .lst (szD s) :: .lstU (refs O.length s.length) :: ((List.replicate (i + 1) .dead ++ (ess.drop (i + 1)).map lstE) ++ [.lstU ((Rs.take i).map .d)]) := by
          rw [hd, Nat.add_comm 2 i]
          simp only [List.set_cons_succ, List.append_assoc]
          rw [List.set_append_right (h := by simp)]
          simp [List.replicate_succ', lstE]
        have hlt : 2 + i < (.lst (szD s) :: .lstU (refs O.length s.length) :: ((List.replicate i .dead ++ (ess.drop i).map lstE) ++ [.lstU ((Rs.take i).map .d)]) : Cs).length := (List.getElem?_eq_some_iff.mp hT).1
        have h0 : (.lst (szD s) :: .lstU (refs O.length s.length) :: ((List.replicate i .dead ++ (ess.drop i).map lstE) ++ [.lstU ((Rs.take i).map .d)]) : Cs)[0]? = some (.lst (szD s)) := rfl
        have h1 : (.lst (szD s) :: .lstU (refs O.length s.length) :: ((List.replicate i .dead ++ (ess.drop i).map lstE) ++ [.lstU ((Rs.take i).map .d)]) : Cs)[1]? = some (.lstU (refs O.length s.length)) := rfl
        generalize (.lst (szD s) :: .lstU (refs O.length s.length) :: ((List.replicate i .dead ++ (ess.drop i).map lstE) ++ [.lstU ((Rs.take i).map .d)]) : Cs) = TT at hT hS hlt h0 h1 ⊢
        exact end_elt ρ TT _ (i : Int) (2 + i) _ _ P n (es.map Ed.d) h3 h5 h4 (by rw [getC_0, h0]) hx (by rw [getC_k, h1]) hre (by rw [getC_k, hT]) hlt hS
      · have hTl : (Cell.lst (szD s) :: .lstU (refs O.length s.length) :: ess.map lstE).length = 2 + s.length := by simp [hl]; omega
        rw [hTl]
        have hln2 : (List.replicate (i + 1) Cell.dead ++ (ess.drop (i + 1)).map lstE).length = s.length := by simp; omega
        rw [putC_at (acc := (Rs.take i).map .d) (by
          rw [Nat.add_comm 2 s.length]
          simp only [List.getElem?_cons_succ]
          rw [List.getElem?_append_right (by omega), hln2]
          simp) (by simp; omega)]
        rw [Nat.add_comm 2 s.length]
        simp only [List.set_cons_succ]
        rw [List.set_append_right (h := by omega), hln2, List.take_add_one, hri]
        simp) rfl
  rw [k]
  have hul : (rngU 0 s.length 1).length = s.length := rngU_len
  rw [hul]
  have hdr : ess.drop s.length = [] := List.drop_eq_nil_of_le (by omega)
  have hTl : (Cell.lst (szD s) :: .lstU (refs O.length s.length) :: ess.map lstE).length = 2 + s.length := by simp [hl]; omega
  have hta : Rs.take s.length = Rs := List.take_of_length_le (by omega)
  rw [hdr, hta]
  have e5 : (Cell.lst (szD s) :: .lstU (refs O.length s.length) :: ((List.replicate s.length .dead ++ ([] : List (List Ed)).map lstE) ++ [.lstU (Rs.map .d)]))[(Cell.lst (szD s) :: .lstU (refs O.length s.length) :: ess.map lstE).length]? = some (.lstU (Rs.map .d)) := by
    rw [hTl, Nat.add_comm 2 s.length]
    simp only [List.getElem?_cons_succ]
    rw [List.getElem?_append_right (by simp)]
    simp
  unfold compE
  simp only [e5, allD_map]
  rw [if_neg (by decide)]
  split
  · exact ⟨_, rfl⟩
  · exact ⟨_, rfl⟩
end
theorem lay.mono {k m : Nat} {d : D} (h : lay k d) (hk : k ≤ m) : lay m d := ⟨h.1, Nat.le_trans h.2 hk⟩
theorem lay_step : lay 0 (.str "step") := ⟨by decide +kernel, Nat.le_refl _⟩
theorem lay_call : lay 0 (.str "call") := ⟨by decide +kernel, Nat.le_refl _⟩
theorem lay_ed (e : Ed) : lay 2 e.d := by
  cases e with
  | st p q c t =>
    refine lay_tuple fun x hx => ?_
    simp only [List.mem_cons, List.not_mem_nil, or_false] at hx
    rcases hx with rfl | rfl | rfl | rfl | rfl
    · exact lay_step.mono (by decide)
    · exact (lay_int _).mono (by decide)
    · exact (lay_int _).mono (by decide)
    · exact (lay_int _).mono (by decide)
    · exact lay_nT _
  | ca p q c g a b t =>
    refine lay_tuple fun x hx => ?_
    simp only [List.mem_cons, List.not_mem_nil, or_false] at hx
    rcases hx with rfl | rfl | rfl | rfl | rfl | rfl | rfl | rfl
    · exact lay_call.mono (by decide)
    · exact (lay_int _).mono (by decide)
    · exact (lay_int _).mono (by decide)
    · exact (lay_int _).mono (by decide)
    · exact (lay_int _).mono (by decide)
    · exact lay_nT _
    · exact lay_nT _
    · exact lay_nT _
theorem lay_fn (x : Int × Int × List Ed) : lay 4 (.tuple [.int x.1, .int x.2.1, .list (x.2.2.map Ed.d)]) := by
  refine lay_tuple fun y hy => ?_
  simp only [List.mem_cons, List.not_mem_nil, or_false] at hy
  rcases hy with rfl | rfl | rfl
  · exact (lay_int _).mono (by decide)
  · exact (lay_int _).mono (by decide)
  · refine lay_list fun z hz => ?_
    obtain ⟨e, _, rfl⟩ := List.mem_map.mp hz
    exact lay_ed e
theorem lay_ch (ch : Ch) : lay 5 (.list (chD ch)) := lay_list fun y hy => by
  obtain ⟨x, _, rfl⟩ := List.mem_map.mp hy
  exact lay_fn x
theorem noBs_map {α : Type} (f : α → D) (h : ∀ x, noB (f x) = true) : ∀ l : List α, noBs (l.map f) = true
  | [] => rfl
  | a :: l => by
    show (noB (f a) && noBs (l.map f)) = true
    rw [h a, noBs_map f h l]
    rfl
theorem noB_ed (e : Ed) : noB e.d = true := by
  cases e with
  | st p q c t =>
    show noBs [.str "step", .int p, .int q, .int c, .tuple (nD t)] = true
    simp [noBs, noB, noB_nD]
  | ca p q c g a b t =>
    show noBs [.str "call", .int p, .int q, .int c, .int g, .tuple (nD a), .tuple (nD b), .tuple (nD t)] = true
    simp [noBs, noB, noB_nD]
theorem noB_ch (ch : Ch) : noB (.list (chD ch)) = true := by
  show noBs (chD ch) = true
  refine noBs_map _ (fun x => ?_) ch
  show noBs [.int x.1, .int x.2.1, .list (x.2.2.map Ed.d)] = true
  have : noBs (x.2.2.map Ed.d) = true := noBs_map _ noB_ed _
  simp [noBs, noB, this]
theorem cmp_same {O T : Cs} {x y : U} {d : D} (hx : toD O T 3 x = some d) (hy : toD O T 3 y = some d) (hs : shp d = true) (hn : noB d = true) : cmpU O .eq x y T = some true ∧ cmpU O .ne x y T = some false := by
  have e : PyData.eqv d d = true := (eqv_iff d d hn hn).mpr rfl
  constructor
  · show (match toD O T 3 x, toD O T 3 y with | some a, some b => if shp a && shp b then some (PyData.eqv a b) else none | _, _ => none) = _
    rw [hx, hy]
    simp [hs, e]
  · show (match toD O T 3 x, toD O T 3 y with | some a, some b => if shp a && shp b then some (!PyData.eqv a b) else none | _, _ => none) = _
    rw [hx, hy]
    simp [hs, e]
theorem step_same {O T : Cs} : cmpU O .eq (.d (.str "step")) (.d (.str "step")) T = some true := (cmp_same (O := O) (T := T) (x := .d (.str "step")) (y := .d (.str "step")) rfl rfl (lay_step.shp (by decide)) rfl).1
theorem call_step {O T : Cs} : cmpU O .eq (.d (.str "call")) (.d (.str "step")) T = some false := by
  show (if shp (.str "call") && shp (.str "step") then some (PyData.eqv (.str "call") (.str "step")) else none) = _
  rw [lay_call.shp (by decide), lay_step.shp (by decide)]
  decide +kernel
/-- a comprehension that gives a cell of its own -/
theorem comp_ml {C : Cn} {O T : Cs} {ρ : Rho} {elt t : CE} {g : Tg} {it : IT} {own : List Nat} {us : List U} {w : Option Nat} {tt : Cs} {ds : List Y.D} (he : denI C O ρ it T = .ok ⟨us, w, tt⟩ T) (hw : ∀ acc, sameW O tt (T ++ [.lstU acc]) w = true) (hlen : ds.length = us.length) (h : ∀ (i : Nat) (u : U) (d : Y.D), us[i]? = some u → ds[i]? = some d → ∀ acc, Turn1 C O ρ elt t g own (T ++ [.lstU acc]) u (some (.d d))) (hl : us.length ≤ 1000000) :
    den C O ρ (.comp true elt g it t own) T = .ok (.ref (O.length + T.length)) (T ++ [.lst ds]) := by
  have hd : (ds.map fun d => some (U.d d)).filterMap id = ds.map .d := by
    induction ds generalizing us with
    | nil => rfl
    | cons a l ih => simp [List.filterMap_map, Function.comp_def]
  rw [den, he, R.bind_ok]
  refine (congrArg (fun r : R Unit => r.bind fun _ T' => compE O true T T') (comp_runI (ds.map fun d => some (U.d d)) hw (by simpa using hlen) (fun i u r h1 h2 acc => by
    rw [List.getElem?_map, Option.map_eq_some_iff] at h2
    obtain ⟨d, hd, rfl⟩ := h2
    exact h i u d h1 hd acc) hl)).trans ?_
  show compE O true T _ = _
  unfold compE
  have e5 : (T ++ [Cell.lstU ((ds.map fun d => some (U.d d)).filterMap id)])[T.length]? = some (.lstU ((ds.map fun d => some (U.d d)).filterMap id)) := by simp
  simp only [e5, hd]
  simp
def chartE (jp je : Nat) : CB := (.cons (.for_ (.tp (.cons (.nm 6) (.cons (.nm 7) .nil))) (.enumL (.slc false (.v 0) .skip (.c (.int 24)))) (.cons (.asg (.nm 4) (.call false jp (.cons (.v 7) (.cons (.c (.int 1)) (.cons (.bi false .len (.cons (.v 3) .nil)) .nil))) [])) (.cons (.ex (.mt false .append (.ix (.v 5) (.v 4)) (.cons (.call false je (.cons (.v 3) (.cons (.v 4) (.cons (.bin false .add (.v 7) (.bin false .mul (.c (.int 31)) (.v 6))) .nil))) []) .nil))) .nil))) (.cons (.ret (.comp false (.tup (.cons (.ix (.ix (.v 3) (.v 4)) (.c (.int 0))) (.cons (.ix (.ix (.v 3) (.v 4)) (.c (.int 1))) (.cons (.frz (.ix (.v 5) (.v 4))) .nil)))) (.nm 4) (.rng1 (.bi false .len (.cons (.v 3) .nil))) (.c (.bool true)) [4])) .nil))
def chartC (jp je : Nat) : CB := (.cons (.asg (.nm 5) (.comp true (.lst true .nil) (.nm 8) (.lst (.v 3)) (.c (.bool true)) [8])) (chartE jp je))
theorem chartB_eq (jp je : Nat) : chartB jp je = (.cons (.asg (.nm 2) (.ix (.lst false (.cons (.tup (.cons (.c (.int 3)) (.cons (.c (.int 4)) (.cons (.c (.int 4)) .nil)))) (.cons (.tup (.cons (.c (.int 6)) (.cons (.c (.int 10)) (.cons (.c (.int 6)) .nil)))) .nil))) (.bi false .int (.cons (.cmp .eq (.call false jp (.cons (.v 1) (.cons (.c (.int 0)) (.cons (.c (.int 6)) .nil))) []) (.c (.int 1))) .nil)))) (.cons (.asg (.nm 3) (.lst true .nil)) (.cons (.for_ (.nm 4) (.rng1 (.bin false .add (.c (.int 1)) (.call false jp (.cons (.v 1) (.cons (.c (.int 1)) (.cons (.ix (.v 2) (.c (.int 0))) .nil))) []))) (.cons (.ex (.mt false .append (.v 3) (.cons (.tup (.cons (.bin false .add (.c (.int 1)) (.call false jp (.cons (.v 1) (.cons (.bin false .add (.c (.int 10)) (.bin false .mul (.c (.int 2)) (.v 4))) (.cons (.ix (.v 2) (.c (.int 1))) .nil))) [])) (.cons (.bin false .add (.c (.int 1)) (.call false jp (.cons (.v 1) (.cons (.bin false .add (.c (.int 11)) (.bin false .mul (.c (.int 2)) (.v 4))) (.cons (.ix (.v 2) (.c (.int 2))) .nil))) [])) .nil))) .nil))) .nil)) (chartC jp je)))) := rfl
theorem sum_set1 (e : Ed) : ∀ (l : List (List Ed)) (f : Nat) (es : List Ed), l[f]? = some es → ((l.set f (es ++ [e])).map List.length).sum = (l.map List.length).sum + 1
  | [], f, es, h => by simp at h
  | a :: l, 0, es, h => by
    simp at h
    subst h
    simp
    omega
  | a :: l, f + 1, es, h => by
    have := sum_set1 e l f es (by simpa using h)
    rw [List.set_cons_succ, List.map_cons, List.map_cons, List.sum_cons, List.sum_cons, this]
    omega
theorem mem_sum : ∀ {l : List Nat} {x : Nat}, x ∈ l → x ≤ l.sum
  | [], _, h => by cases h
  | a :: l, x, h => by
    rw [List.sum_cons]
    rcases List.mem_cons.mp h with rfl | h
    · omega
    · have := mem_sum h
      omega
theorem chart_of (s : Sz) (hs : SzOk s) (ess : List (List Ed)) (hl : ess.length = s.length) (hk : ∀ f es, ess[f]? = some es → ∀ e ∈ es, EdOk s f e) (hm : (ess.map List.length).sum ≤ 24) : ChOk ((s.zip ess).map fun p => (p.1.1, p.1.2, p.2)) := by
  have e1 : chSz ((s.zip ess).map fun p => (p.1.1, p.1.2, p.2)) = s := by
    unfold chSz
    rw [List.map_map]
    have : ((fun x : Int × Int × List Ed => (x.1, x.2.1)) ∘ fun p : (Int × Int) × List Ed => (p.1.1, p.1.2, p.2)) = Prod.fst := by
      funext p
      rfl
    rw [this, List.map_fst_zip (by omega)]
  have e2 : manyE ((s.zip ess).map fun p => (p.1.1, p.1.2, p.2)) = (ess.map List.length).sum := by
    unfold manyE
    rw [List.map_map]
    have : ((fun x : Int × Int × List Ed => x.2.2.length) ∘ fun p : (Int × Int) × List Ed => (p.1.1, p.1.2, p.2)) = List.length ∘ Prod.snd := by
      funext p
      rfl
    rw [this, ← List.map_map, List.map_snd_zip (by omega)]
  refine ⟨by rw [e1]; exact hs, fun f x hx e he => ?_, by rw [e2]; exact hm⟩
  rw [e1]
  rw [List.getElem?_map, Option.map_eq_some_iff] at hx
  obtain ⟨p, hp, rfl⟩ := hx
  exact hk f p.2 (List.getElem?_zip_eq_some.mp hp).2 e he
section
variable {C : Cn} {O : Cs} {jp je : Nat}
abbrev ChartRt (u : U) (_ : Cs) : Prop := ∃ ch, ChOk ch ∧ u = .d (.list (chD ch))
theorem chart_app (hp : PickOk C jp) (he : EdgeOk C je) (s : Sz) (hs : SzOk s) (ess : List (List Ed)) (hl : ess.length = s.length) (hk : ∀ f es, ess[f]? = some es → ∀ e ∈ es, EdOk s f e) (hm : (ess.map List.length).sum ≤ 1000) (ua : U) (w1 w2 x4 x8 : Option U) (i v : Int) (nx bk ct : Rho → Cs → Prop) (rt : U → Cs → Prop)
    (hN : ∀ ess' : List (List Ed), ess'.length = s.length → (∀ f es, ess'[f]? = some es → ∀ e ∈ es, EdOk s f e) → (ess'.map List.length).sum = (ess.map List.length).sum + 1 → ∀ x4, nx [some ua, w1, w2, some (.ref O.length), x4, some (.ref (O.length + 1)), some (.d (.int i)), some (.d (.int v)), x8] (.lst (szD s) :: .lstU (refs O.length s.length) :: ess'.map lstE)) :
    Wp (denB C O (.cons (.asg (.nm 4) (.call false jp (.cons (.v 7) (.cons (.c (.int 1)) (.cons (.bi false .len (.cons (.v 3) .nil)) .nil))) [])) (.cons (.ex (.mt false .append (.ix (.v 5) (.v 4)) (.cons (.call false je (.cons (.v 3) (.cons (.v 4) (.cons (.bin false .add (.v 7) (.bin false .mul (.c (.int 31)) (.v 6))) .nil))) []) .nil))) .nil)) [some ua, w1, w2, some (.ref O.length), x4, some (.ref (O.length + 1)), some (.d (.int i)), some (.d (.int v)), x8] (.lst (szD s) :: .lstU (refs O.length s.length) :: ess.map lstE)) nx bk ct rt := by
  have hln : (szD s).length = s.length := by simp [szD]
  obtain ⟨s1, s6⟩ := hs.1
  have g0 : getC O (.lst (szD s) :: .lstU (refs O.length s.length) :: ess.map lstE) O.length = some (.lst (szD s)) := by simp
  have g1 : getC O (.lst (szD s) :: .lstU (refs O.length s.length) :: ess.map lstE) (O.length + 1) = some (.lstU (refs O.length s.length)) := by simp
  have hlen := lenB_ref g0
  rw [hln] at hlen
  obtain ⟨f, f0, f1, ef⟩ := hp O (.lst (szD s) :: .lstU (refs O.length s.length) :: ess.map lstE) v 1 (s.length : Int) (by omega)
  have hre := refs_at O.length s.length f f0 f1
  have hfl : f.toNat < ess.length := by omega
  have hes : ess[f.toNat]? = some ess[f.toNat] := List.getElem?_eq_getElem hfl
  generalize ess[f.toNat] = es at hes
  have hT : (.lst (szD s) :: .lstU (refs O.length s.length) :: ess.map lstE : Cs)[2 + f.toNat]? = some (.lst (es.map Ed.d)) := by
    rw [Nat.add_comm]
    simp [hes, lstE]
  have hlt := (List.getElem?_eq_some_iff.mp hT).1
  have g2 : getC O (.lst (szD s) :: .lstU (refs O.length s.length) :: ess.map lstE) (O.length + (2 + f.toNat)) = some (.lst (es.map Ed.d)) := by
    rw [getC_k, hT]
  have hxr := ixU_atU g1 hre
  obtain ⟨e, hok, ee⟩ := he O (.lst (szD s) :: .lstU (refs O.length s.length) :: ess.map lstE) O.length s f (v + 31 * i) hs g0 f0 f1
  have hesl : es.length ≤ 1000 := by
    have h1 : es.length ∈ ess.map List.length := List.mem_map.mpr ⟨es, List.mem_of_getElem? hes, rfl⟩
    have := mem_sum h1
    omega
  have hS : (.lst (szD s) :: .lstU (refs O.length s.length) :: ess.map lstE : Cs).set (2 + f.toNat) (.lst (es.map Ed.d ++ [e.d])) = .lst (szD s) :: .lstU (refs O.length s.length) :: (ess.set f.toNat (es ++ [e])).map lstE := by
    rw [Nat.add_comm 2]
    simp [List.map_set, lstE]
  have hap : mtU O false .append (.ref (O.length + (2 + f.toNat))) [.d e.d] (.lst (szD s) :: .lstU (refs O.length s.length) :: ess.map lstE) = .ok (.d .none) (.lst (szD s) :: .lstU (refs O.length s.length) :: (ess.set f.toNat (es ++ [e])).map lstE) := by
    rw [mtU_append]
    unfold appU
    simp only [g2]
    rw [if_pos (by simp [Y.sizeOk]; omega), setC_k, if_pos hlt, hS]
  have hty : tyU O (.lst (szD s) :: .lstU (refs O.length s.length) :: ess.map lstE) (.ref (O.length + (2 + f.toNat))) = some .list := by
    rw [tyU_ref, g2]
  have hfin := hN (ess.set f.toNat (es ++ [e])) (by simp [hl]) (fun f' es' h' e' he' => by
    rw [List.getElem?_set] at h'
    by_cases hff : f.toNat = f'
    · rw [if_pos hff, if_pos hfl] at h'
      cases h'
      rw [List.mem_append] at he'
      rcases he' with he' | he'
      · exact hff ▸ hk _ _ hes e' he'
      · simp at he'
        subst he'
        exact hff ▸ hok
    · rw [if_neg hff] at h'
      exact hk f' es' h' e' he') (sum_set1 e ess f.toNat es hes) (some (.d (.int f)))
  clear hN hS hT g0 g1 g2 hre hlt
  have hseti : ∀ T, den C O [some ua, w1, w2, some (.ref O.length), some (.d (.int f)), some (.ref (O.length + 1)), some (.d (.int i)), some (.d (.int v)), x8] (.ix (.v 5) (.v 4)) T = R.ofO T (ixU O (.ref (O.length + 1)) (.d (.int f)) T) := fun T => by simp
  generalize (.lst (szD s) :: .lstU (refs O.length s.length) :: (ess.set f.toNat (es ++ [e])).map lstE : Cs) = T2 at hfin hap
  generalize (.lst (szD s) :: .lstU (refs O.length s.length) :: ess.map lstE : Cs) = T1 at hap hxr hty ef ee hlen ⊢
  generalize O.length + (2 + f.toNat) = kk at hap hxr hty
  generalize (s.length : Int) = ln at hlen ef
  generalize O.length + 1 = k1 at hxr hfin ⊢
  have m1 : mulOk 31 i = true := mul_okL (by decide)
  simp [hlen, ef, hxr, hty, m1, ee, hap]
  exact hfin
theorem chart_fin (s : Sz) (hs : SzOk s) (ess : List (List Ed)) (hl : ess.length = s.length) (hk : ∀ f es, ess[f]? = some es → ∀ e ∈ es, EdOk s f e) (hm : (ess.map List.length).sum ≤ 24) (ρ : Rho) (h3 : ρ[3]? = some (some (.ref O.length))) (h5 : ρ[5]? = some (some (.ref (O.length + 1)))) (h4 : 4 < ρ.length) (nx bk ct : Rho → Cs → Prop) :
    Wp (denB C O (.cons (.ret (.comp false (.tup (.cons (.ix (.ix (.v 3) (.v 4)) (.c (.int 0))) (.cons (.ix (.ix (.v 3) (.v 4)) (.c (.int 1))) (.cons (.frz (.ix (.v 5) (.v 4))) .nil)))) (.nm 4) (.rng1 (.bi false .len (.cons (.v 3) .nil))) (.c (.bool true)) [4])) .nil) ρ (.lst (szD s) :: .lstU (refs O.length s.length) :: ess.map lstE)) nx bk ct ChartRt := by
  obtain ⟨T', e⟩ := chart_end (C := C) s hs ess hl ρ h3 h5 h4
  rw [wp_cons, denS_ret, e]
  exact ⟨_, chart_of s hs ess hl hk hm, rfl⟩
theorem chart_rest (hp : PickOk C jp) (he : EdgeOk C je) (s : Sz) (hs : SzOk s) (ua : U) (cells : List Int) (hsl : ∀ T, slcU O false ua none (some 24) T = .ok (.d (.list ((cells.take 24).map .int))) T) (w1 w2 x4 x6 x7 x8 : Option U) (x5 : Option U) (nx bk ct : Rho → Cs → Prop) :
    Wp (denB C O (chartC jp je) [some ua, w1, w2, some (.ref O.length), x4, x5, x6, x7, x8] [.lst (szD s)]) nx bk ct ChartRt := by
  unfold chartC
  have e0 := edges0 (C := C) (O := O) s hs [some ua, w1, w2, some (.ref O.length), x4, x5, x6, x7, x8] rfl (by simp)
  rw [wp_cons, wpS_asg, e0]
  simp only [F.of_ok, asgT_nm, List.set_cons_zero, List.set_cons_succ, wp_nx, Kc_eq]
  unfold chartE
  rw [wp_cons]
  refine wp_for ⟨((cells.take 24).map fun c => U.d (.int c)).zipIdx.map fun p => mkT [.d (.int (p.2 : Nat)), p.1], none, .lst (szD s) :: .lstU (refs O.length s.length) :: List.replicate s.length (lstE [])⟩ (.lst (szD s) :: .lstU (refs O.length s.length) :: List.replicate s.length (lstE [])) (fun i ρ T => ∃ (ess : List (List Ed)) (x4 x6 x7 : Option U), ess.length = s.length ∧ (∀ f es, ess[f]? = some es → ∀ e ∈ es, EdOk s f e) ∧ (ess.map List.length).sum = i ∧ T = .lst (szD s) :: .lstU (refs O.length s.length) :: ess.map lstE ∧ ρ = [some ua, w1, w2, some (.ref O.length), x4, some (.ref (O.length + 1)), x6, x7, x8]) ?_ ?_ (by simp) ?_ ?_
  · have hsl' := hsl (.lst (szD s) :: .lstU (refs O.length s.length) :: List.replicate s.length (lstE []))
    simp [hsl']
    rfl
  · refine ⟨List.replicate s.length [], x4, x6, x7, by simp, fun f es h e he => ?_, by simp, by simp, rfl⟩
    rw [List.getElem?_replicate] at h
    split at h
    · cases h
      cases he
    · cases h
  · rintro i u hu ρ T ⟨ess, x4, x6, x7, hl, hk, hsm, rfl, rfl⟩
    have hi : i < (cells.take 24).length := by
      have := (List.getElem?_eq_some_iff.mp hu).1
      simpa using this
    have hu' : ∃ v : Int, u = .d (.tuple [.int (i : Nat), .int v]) := by
      rw [List.getElem?_map, List.getElem?_zipIdx, List.getElem?_map, List.getElem?_eq_getElem hi] at hu
      simp at hu
      exact ⟨_, hu.symm⟩
    obtain ⟨v, rfl⟩ := hu'
    have hi24 : i < 24 := by
      have : (cells.take 24).length ≤ 24 := List.length_take_le _ _
      omega
    refine ⟨_, rfl, ?_⟩
    exact chart_app hp he s hs ess hl hk (by omega) ua w1 w2 x4 x8 (i : Int) v _ _ _ _ fun ess' h1 h2 h3 x4 => ⟨ess', x4, _, _, h1, h2, by rw [h3, hsm], rfl, rfl⟩
  · rintro ρ T ⟨ess, x4, x6, x7, hl, hk, hsm, rfl, rfl⟩
    refine chart_fin s hs ess hl hk ?_ _ rfl rfl (by simp) _ _ _
    rw [hsm]
    have : (cells.take 24).length ≤ 24 := List.length_take_le _ _
    simp only [List.length_map, List.length_zipIdx]
    exact this
end
@[simp] theorem intB_bool (T : Cs) (b : Bool) : intB T (.d (.bool b)) = .ok (.d (.int (if b then 1 else 0))) T := rfl
def ChartOk (C : Cn) (jc : Nat) : Prop := ∀ (O T : Cs) (cells : List Int) (way : Int), ∃ ch, ChOk ch ∧ callP C O jc [.d (.list (cells.map .int)), .d (.int way)] T = .ok (.d (.list (chD ch))) T
theorem chart_run {G : Pg} {jp je jc : Nat} (hG : G.defs jc = some ⟨2, 9, chartB jp je⟩) (n : Nat) (hp : PickOk (cn G n) jp) (he : EdgeOk (cn G n) je) : ChartOk (cn G (n + 1)) jc := by
  intro O T cells way
  suffices hg : Gv (Y.run G (n + 1) (O ++ T) jc [.d (.list (cells.map .int)), .d (.int way)] []) ChartRt by
    obtain ⟨u, T', e, ch, h1, rfl⟩ := hg.ex
    exact ⟨ch, h1, callP_r O T e⟩
  refine run_wp hG rfl ?_
  generalize O ++ T = O
  generalize cn G n = C at hp he ⊢
  have hsl : ∀ T, slcU O false (.d (.list (cells.map .int))) none (some 24) T = .ok (.d (.list ((cells.take 24).map .int))) T := by
    intro T
    rw [slcU_L, cut_to _ _ (by decide)]
    show mkL O false ((List.take 24 (cells.map PyData.int)).map U.d) T = _
    rw [← List.map_take]
    unfold mkL
    rw [if_neg (by decide), allD_map]
  have hrest := fun s hs => chart_rest hp he s hs (.d (.list (cells.map .int))) cells hsl
  rw [chartB_eq]
  obtain ⟨ua, hua⟩ : ∃ ua : U, ua = .d (.list (cells.map .int)) := ⟨_, rfl⟩
  rw [← hua] at hrest ⊢
  clear hsl
  obtain ⟨r0, a00, a01, e0⟩ := hp O [] way 0 6 (by decide)
  have hmost : ∃ a b c : Int, L2.atI [PyData.tuple [.int 3, .int 4, .int 4], .tuple [.int 6, .int 10, .int 6]] (if r0 = 1 then 1 else 0) = some (.tuple [.int a, .int b, .int c]) ∧ (1 ≤ a ∧ a ≤ 6) ∧ (1 ≤ b ∧ b ≤ 10) ∧ 1 ≤ c ∧ c ≤ 6 := by
    by_cases h : r0 = 1
    · rw [if_pos h]
      exact ⟨6, 10, 6, rfl, by omega, by omega, by omega⟩
    · rw [if_neg h]
      exact ⟨3, 4, 4, rfl, by omega, by omega, by omega⟩
  obtain ⟨a, b, c, hm, ha, hb, hc⟩ := hmost
  have t0 : L2.atI [PyData.int a, .int b, .int c] 0 = some (.int a) := rfl
  have t1 : L2.atI [PyData.int a, .int b, .int c] 1 = some (.int b) := rfl
  have t2 : L2.atI [PyData.int a, .int b, .int c] 2 = some (.int c) := rfl
  obtain ⟨r1, a10, a11, e1⟩ := hp O [.lst []] way 1 a (by omega)
  generalize hK : chartC jp je = K at hrest ⊢
  simp only [List.map_cons, List.map_nil, List.length_cons, List.length_nil, List.replicate, List.cons_append, List.nil_append, wp_cons, wpS_asg]
  simp [e0, hm]
  have hro : rngOk 0 (1 + r1) = true := by simp [rngOk]; omega
  refine wp_for ⟨rngU 0 (1 + r1).toNat 1, none, [.lst []]⟩ [.lst []] (fun i ρ T => ∃ (sz : Sz) (x4 : Option U), sz.length = i ∧ (∀ p ∈ sz, 1 ≤ p.1 ∧ p.1 ≤ 10 ∧ 1 ≤ p.2 ∧ p.2 ≤ 6) ∧ T = [.lst (szD sz)] ∧ ρ = [some ua, some (.d (.int way)), some (.d (.tuple [.int a, .int b, .int c])), some (.ref O.length), x4, none, none, none, none]) ?_ ?_ (by simp) ?_ ?_
  · refine rng1_ok (z := 1 + r1) ?_ hro rfl
    simp [t0, e1]
  · exact ⟨[], none, rfl, by simp, rfl, rfl⟩
  · rintro i u hu ρ T ⟨sz, x4, hl, hsz, rfl, rfl⟩
    obtain ⟨hi, rfl⟩ := rngU_get hu
    obtain ⟨iI, hiI⟩ : ∃ iI : Int, iI = (i : Int) := ⟨_, rfl⟩
    have hw0 : (0 + ((i : Nat) : Int) * 1) = iI := by omega
    rw [hw0]
    refine ⟨_, rfl, ?_⟩
    obtain ⟨p, p0, p1, ep⟩ := hp O [.lst (szD sz)] way (10 + 2 * iI) b (by omega)
    obtain ⟨q, q0, q1, eq⟩ := hp O [.lst (szD sz)] way (11 + 2 * iI) c (by omega)
    have m1 : mulOk 2 iI = true := mul_okL (by decide)
    have hlen : (szD sz).length ≤ 1000000 := by simp [szD]; omega
    have hsn : ∃ sz' : Sz, szD sz ++ [.tuple [.int (1 + p), .int (1 + q)]] = szD sz' ∧ sz'.length = i + 1 ∧ ∀ p ∈ sz', 1 ≤ p.1 ∧ p.1 ≤ 10 ∧ 1 ≤ p.2 ∧ p.2 ≤ 6 := by
      refine ⟨sz ++ [(1 + p, 1 + q)], by simp [szD], by simp [hl], fun x hx => ?_⟩
      rw [List.mem_append] at hx
      rcases hx with hx | hx
      · exact hsz x hx
      · simp at hx
        subst hx
        exact ⟨by omega, by omega, by omega, by omega⟩
    obtain ⟨sz', h1, h2, h3⟩ := hsn
    generalize szD sz = R at h1 ep eq hlen
    simp [t1, t2, m1, ep, eq, hlen, h1]
    exact ⟨sz', h2, fun a b hab => h3 (a, b) hab, rfl⟩
  · rintro ρ T ⟨sz, x4, hl, hsz, rfl, rfl⟩
    have hl : sz.length = (1 + r1).toNat := by rw [hl]; exact rngU_len
    exact hrest sz ⟨⟨by omega, by omega⟩, hsz⟩ _ _ _ _ _ _ _ _ _ _
end Y

set_option Elab.async false
set_option linter.all false
set_option maxRecDepth 100000
set_option maxHeartbeats 4000000
namespace Y
open PySem
/-- the cell r holds another number, and there are cells behind -/
def Chg (O : Cs) (r : Nat) (T T' : Cs) : Prop := ∃ (s : Int) (g : Cs), T' = T.set (r - O.length) (.lst [.int s]) ++ g
structure StAt (O T : Cs) (r : Nat) : Prop where
  lo : O.length ≤ r
  at_ : ∃ s : Int, T[r - O.length]? = some (.lst [.int s])
theorem StAt.get {O T : Cs} {r : Nat} (h : StAt O T r) : ∃ s : Int, getC O T r = some (.lst [.int s]) ∧ r - O.length < T.length := by
  obtain ⟨s, hs⟩ := h.at_
  refine ⟨s, ?_, (List.getElem?_eq_some_iff.mp hs).1⟩
  have : r = O.length + (r - O.length) := by have := h.lo; omega
  rw [this, getC_k]
  exact hs
theorem StAt.chg {O T T' : Cs} {r : Nat} (h : StAt O T r) (c : Chg O r T T') : StAt O T' r := by
  obtain ⟨s, hs⟩ := h.at_
  obtain ⟨s', g, rfl⟩ := c
  have hlt := (List.getElem?_eq_some_iff.mp hs).1
  refine ⟨h.lo, s', ?_⟩
  rw [List.getElem?_append_left (by simpa using hlt), List.getElem?_set_self hlt]
theorem Chg.trans {O T T' T'' : Cs} {r : Nat} (h : StAt O T r) (c : Chg O r T T') (c' : Chg O r T' T'') : Chg O r T T'' := by
  obtain ⟨s, hs⟩ := h.at_
  have hlt := (List.getElem?_eq_some_iff.mp hs).1
  obtain ⟨s', g, rfl⟩ := c
  obtain ⟨s'', g', rfl⟩ := c'
  refine ⟨s'', g ++ g', ?_⟩
  rw [List.set_append_left (h := by simpa using hlt), List.set_set, List.append_assoc]
/-- other cells stay -/
theorem Chg.get {O T T' : Cs} {r i : Nat} {c : Cell} (h : Chg O r T T') (hr : O.length ≤ r) (hi : i ≠ r) (hc : getC O T i = some c) : getC O T' i = some c := by
  obtain ⟨s, g, rfl⟩ := h
  rw [getC_eq] at hc ⊢
  by_cases hO : i < O.length
  · rw [List.getElem?_append_left hO] at hc ⊢
    exact hc
  · rw [List.getElem?_append_right (by omega)] at hc ⊢
    have hlt := (List.getElem?_eq_some_iff.mp hc).1
    rw [List.getElem?_append_left (by simpa using hlt), List.getElem?_set_ne (by omega)]
    exact hc
theorem chg_len {O T T' : Cs} {r : Nat} (h : Chg O r T T') : T.length ≤ T'.length := by
  obtain ⟨s, g, rfl⟩ := h
  simp
def nextB : CB := (.cons (.seti (.v 0) (.c (.int 0)) (.bin false .mod (.bin false .add (.bin false .mul (.ix (.v 0) (.c (.int 0))) (.c (.int 69621))) (.c (.int 40503))) (.c (.int 2147483647))))
 (.cons (.ret (.bin false .mod (.bin false .fdiv (.ix (.v 0) (.c (.int 0))) (.c (.int 11))) (.v 1)))
 .nil))
def NextOk (C : Cn) (jn : Nat) : Prop := ∀ (O T : Cs) (r : Nat) (m : Int), StAt O T r → 0 < m → ∃ (v s : Int), 0 ≤ v ∧ v < m ∧ C.call O jn [.ref r, .d (.int m)] T = .ok (.d (.int v)) (T.set (r - O.length) (.lst [.int s]))
theorem next_run {G : Pg} {jn : Nat} (hG : G.defs jn = some ⟨2, 2, nextB⟩) (n : Nat) : NextOk (cn G (n + 1)) jn := by
  intro O T r m hs hm
  suffices hg : Gv (Y.run G (n + 1) O jn [.ref r, .d (.int m)] T) fun u T' => ∃ (v s : Int), 0 ≤ v ∧ v < m ∧ u = .d (.int v) ∧ T' = T.set (r - O.length) (.lst [.int s]) by
    obtain ⟨u, T', e, v, s, h1, h2, rfl, rfl⟩ := hg.ex
    exact ⟨v, s, h1, h2, e⟩
  refine run_wp hG rfl ?_
  obtain ⟨s, hg, hlt⟩ := hs.get
  have hlo := hs.lo
  have ix0 : ixU O (.ref r) (.d (.int 0)) T = some (.d (.int s)) := ixU_at hg rfl
  have m1 : mulOk s 69621 = true := mul_ok (by decide)
  obtain ⟨s', hs'⟩ : ∃ s' : Int, s' = (s * 69621 + 40503) % 2147483647 := ⟨_, rfl⟩
  have hset : setiU O (.ref r) (.d (.int 0)) (.d (.int s')) T = .ok (.d .none) (T.set (r - O.length) (.lst [.int s'])) := by
    unfold setiU
    simp only [hg]
    show setC O T r (.lst [.int s']) = _
    unfold setC
    rw [if_pos ⟨hlo, by omega⟩]
  have hg' : getC O (T.set (r - O.length) (.lst [.int s'])) r = some (.lst [.int s']) := by
    have : r = O.length + (r - O.length) := by omega
    rw [this, getC_k]
    rw [show O.length + (r - O.length) - O.length = r - O.length by omega, List.getElem?_set_self hlt]
  have ix1 : ixU O (.ref r) (.d (.int 0)) (T.set (r - O.length) (.lst [.int s'])) = some (.d (.int s')) := ixU_at hg' rfl
  generalize hT : T.set (r - O.length) (.lst [.int s']) = T' at hset ix1
  unfold nextB
  rw [wp_cons]
  simp [ix0, m1, ← hs', hset, ix1, hm]
  exact ⟨_, Int.emod_nonneg _ (by omega), Int.emod_lt_of_pos _ hm, rfl, s', hT.symm⟩
theorem NextOk.chg {C : Cn} {jn : Nat} (h : NextOk C jn) (O T : Cs) (r : Nat) (m : Int) (hs : StAt O T r) (hm : 0 < m) : ∃ (v : Int) (T' : Cs), 0 ≤ v ∧ v < m ∧ StAt O T' r ∧ Chg O r T T' ∧ C.call O jn [.ref r, .d (.int m)] T = .ok (.d (.int v)) T' := by
  obtain ⟨v, s, h1, h2, e⟩ := h O T r m hs hm
  have hc : Chg O r T (T.set (r - O.length) (.lst [.int s])) := ⟨s, [], by simp⟩
  exact ⟨v, _, h1, h2, hs.chg hc, hc, e⟩
def costB (jn : Nat) : CB := (.cons (.ite (.cmp .gt (.call true jn (.cons (.v 0) (.cons (.c (.int 4)) .nil)) []) (.c (.int 0))) (.cons (.ret (.bin false .add (.c (.int 1)) (.call true jn (.cons (.v 0) (.cons (.c (.int 9)) .nil)) [])))
  .nil) .nil)
 (.cons (.ret (.bin false .add (.c (.int 1)) (.bin false .mod (.bin false .add (.bin false .mul (.call true jn (.cons (.v 0) (.cons (.bin false .pow (.c (.int 10)) (.c (.int 8))) .nil)) []) (.bin false .pow (.c (.int 10)) (.c (.int 10)))) (.bin false .mul (.call true jn (.cons (.v 0) (.cons (.bin false .pow (.c (.int 10)) (.c (.int 8))) .nil)) []) (.c (.int 239)))) (.bin false .pow (.c (.int 10)) (.c (.int 18))))))
 .nil))
def CostOk (C : Cn) (jc : Nat) : Prop := ∀ (O T : Cs) (r : Nat), StAt O T r → ∃ (v : Int) (T' : Cs), 1 ≤ v ∧ v ≤ 1000000000000000000 ∧ StAt O T' r ∧ Chg O r T T' ∧ C.call O jc [.ref r] T = .ok (.d (.int v)) T'
theorem cost_run {G : Pg} {jn jc : Nat} (hG : G.defs jc = some ⟨1, 1, costB jn⟩) (n : Nat) (hn : NextOk (cn G n) jn) : CostOk (cn G (n + 1)) jc := by
  intro O T r hs
  suffices hg : Gv (Y.run G (n + 1) O jc [.ref r] T) fun u T' => ∃ (v : Int), 1 ≤ v ∧ v ≤ 1000000000000000000 ∧ u = .d (.int v) ∧ Chg O r T T' by
    obtain ⟨u, T', e, v, h1, h2, rfl, hc⟩ := hg.ex
    exact ⟨v, T', h1, h2, hs.chg hc, hc, e⟩
  refine run_wp hG rfl ?_
  obtain ⟨v1, T1, a0, a1, s1, c1, e1⟩ := hn.chg O T r 4 hs (by decide)
  obtain ⟨v2, T2, b0, b1, s2, c2, e2⟩ := hn.chg O T1 r 9 s1 (by decide)
  obtain ⟨v3, T3, d0, d1, s3, c3, e3⟩ := hn.chg O T1 r 100000000 s1 (by decide)
  obtain ⟨v4, T4, f0, f1, s4, c4, e4⟩ := hn.chg O T3 r 100000000 s3 (by decide)
  have m1 : mulOk v3 10000000000 = true := mul_ok (by decide)
  have m2 : mulOk v4 239 = true := mul_ok (by decide)
  generalize cn G n = C at *
  unfold costB
  simp [e1, e2, e3, e4, m1, m2]
  exact ⟨fun _ => ⟨1 + v2, by omega, by omega, rfl, c1.trans hs c2⟩, fun _ => ⟨1 + (v3 * 10000000000 + v4 * 239) % 1000000000000000000, by omega, by omega, rfl, (c1.trans hs c3).trans hs c4⟩⟩
def tableNB (jn : Nat) : CB := (.cons (.asg (.nm 3) (.lst true .nil))
 (.cons (.for_ (.nm 4) (.rng1 (.v 1)) (.cons (.asg (.nm 5) (.bin false .bor (.bin false .band (.call true jn (.cons (.v 0) (.cons (.bin false .shl (.c (.int 1)) (.v 2)) .nil)) []) (.call true jn (.cons (.v 0) (.cons (.bin false .shl (.c (.int 1)) (.v 2)) .nil)) [])) (.bin false .shl (.c (.int 1)) (.bin false .mod (.v 4) (.v 2)))))
  (.cons (.ex (.mt false .append (.v 3) (.cons (.bin false .mul (.v 5) (.bi false .int (.cons (.or (.cmp .eq (.v 4) (.c (.int 0))) (.cmp .gt (.call true jn (.cons (.v 0) (.cons (.c (.int 5)) .nil)) []) (.c (.int 0)))) .nil))) .nil)))
  .nil)))
 (.cons (.ret (.bi false .tuple (.cons (.v 3) .nil)))
 .nil)))
def TableNOk (C : Cn) (jt : Nat) : Prop := ∀ (O T : Cs) (r : Nat) (nn to : Int), StAt O T r → 0 ≤ nn → nn ≤ 6 → 1 ≤ to → to ≤ 6 → ∃ (tb : List Nat) (T' : Cs), TbIn tb nn to ∧ StAt O T' r ∧ Chg O r T T' ∧ C.call O jt [.ref r, .d (.int nn), .d (.int to)] T = .ok (.d (.tuple (nD tb))) T'
theorem Chg.setb {O T T' : Cs} {r i : Nat} {c : Cell} (h : Chg O r T T') (hi : T.length ≤ i) : Chg O r T (T'.set i c) := by
  obtain ⟨s, g, rfl⟩ := h
  refine ⟨s, g.set (i - T.length) c, ?_⟩
  rw [List.set_append_right (h := by simpa using hi), List.length_set]
theorem StAt.setb {O T : Cs} {r i : Nat} {c : Cell} (h : StAt O T r) (hi : i ≠ r - O.length) : StAt O (T.set i c) r := by
  obtain ⟨s, hs⟩ := h.at_
  exact ⟨h.lo, s, by rw [List.getElem?_set_ne hi]; exact hs⟩
theorem StAt.app {O T : Cs} {r : Nat} (h : StAt O T r) (g : Cs) : StAt O (T ++ g) r := by
  obtain ⟨s, hs⟩ := h.at_
  exact ⟨h.lo, s, by rw [List.getElem?_append_left (List.getElem?_eq_some_iff.mp hs).1]; exact hs⟩
theorem Chg.app {O T : Cs} {r : Nat} (h : StAt O T r) (g : Cs) : Chg O r T (T ++ g) := by
  obtain ⟨s, hs⟩ := h.at_
  refine ⟨s, g, ?_⟩
  congr 1
  apply List.ext_getElem?
  intro i
  by_cases hi : r - O.length = i
  · subst hi
    rw [hs, List.getElem?_set_self (List.getElem?_eq_some_iff.mp hs).1]
  · rw [List.getElem?_set_ne hi]
theorem app_at {O T : Cs} {j : Nat} {ds : List D} (v : D) (h : getC O T j = some (.lst ds)) (hl : ds.length ≤ 1000000) (h1 : O.length ≤ j) : appU O j (.d v) T = .ok (.d .none) (T.set (j - O.length) (.lst (ds ++ [v]))) := by
  have h2 : j < O.length + T.length := by
    rw [getC_eq] at h
    have := (List.getElem?_eq_some_iff.mp h).1
    simpa using this
  unfold appU
  simp only [h]
  rw [if_pos (by simpa [Y.sizeOk] using hl)]
  unfold setC
  rw [if_pos ⟨h1, h2⟩]
theorem set_get {O T : Cs} {j : Nat} {c c' : Cell} (h : getC O T j = some c) (h1 : O.length ≤ j) : getC O (T.set (j - O.length) c') j = some c' := by
  rw [getC_eq] at h ⊢
  rw [List.getElem?_append_right h1] at h ⊢
  exact List.getElem?_set_self (List.getElem?_eq_some_iff.mp h).1
theorem tableN_run {G : Pg} {jn jt : Nat} (hG : G.defs jt = some ⟨3, 6, tableNB jn⟩) (n : Nat) (hn : NextOk (cn G n) jn) : TableNOk (cn G (n + 1)) jt := by
  intro O T r nn to hs n0 n6 t1 t6
  suffices hg : Gv (Y.run G (n + 1) O jt [.ref r, .d (.int nn), .d (.int to)] T) fun u T' => ∃ (tb : List Nat), TbIn tb nn to ∧ u = .d (.tuple (nD tb)) ∧ StAt O T' r ∧ Chg O r T T' by
    obtain ⟨u, T', e, tb, h1, rfl, h2, hc⟩ := hg.ex
    exact ⟨tb, T', h1, h2, hc, e⟩
  refine run_wp hG rfl ?_
  have hnc := hn.chg
  generalize cn G n = C at hnc ⊢
  have hrl : r - O.length < T.length := by
    obtain ⟨s, hs'⟩ := hs.at_
    exact (List.getElem?_eq_some_iff.mp hs').1
  have hlo := hs.lo
  obtain ⟨k, hk⟩ : ∃ k, k = O.length + T.length := ⟨_, rfl⟩
  have hro : rngOk 0 nn = true := by simp [rngOk]; omega
  have hM : (0 : Int) < 2 ^ to.toNat := Int.pow_pos (by decide)
  have hto : 0 ≤ to ∧ to ≤ 1000 := by omega
  unfold tableNB
  rw [wp_cons]
  simp
  rw [← hk]
  refine wp_for ⟨rngU 0 nn.toNat 1, none, T ++ [.lst []]⟩ (T ++ [.lst []]) (fun i ρ T' => ∃ (rows : List Nat) (x y : Option U), rows.length = i ∧ (∀ r ∈ rows, r < 2 ^ to.toNat) ∧ StAt O T' r ∧ Chg O r T T' ∧ getC O T' k = some (.lst (nD rows)) ∧ ρ = [some (.ref r), some (.d (.int nn)), some (.d (.int to)), some (.ref k), x, y]) ?_ ?_ (fun _ _ _ _ => rfl) ?_ ?_
  · refine rng1_ok (z := nn) ?_ hro rfl
    simp
  · exact ⟨[], none, none, rfl, by simp, hs.app _, Chg.app hs _, by rw [hk, getC_k]; simp [nD], rfl⟩
  · rintro i u hu ρ T' ⟨rows, x, y, hrl', hrb, hs', hc', hgk, rfl⟩
    obtain ⟨hi, rfl⟩ := rngU_get hu
    obtain ⟨iI, hiI⟩ : ∃ iI : Int, iI = (i : Int) := ⟨_, rfl⟩
    have hw0 : (0 + ((i : Nat) : Int) * 1) = iI := by omega
    rw [hw0]
    refine ⟨_, rfl, ?_⟩
    obtain ⟨v1, T1, a0, a1, s1, c1, e1⟩ := hnc O T' r (2 ^ to.toNat) hs' hM
    obtain ⟨v2, T2, b0, b1, s2, c2, e2⟩ := hnc O T1 r (2 ^ to.toNat) s1 hM
    obtain ⟨v3, T3, d0, d1, s3, c3, e3⟩ := hnc O T2 r 5 s2 (by decide)
    have hkr : k ≠ r := by omega
    have k2 := c2.get s1.lo hkr (c1.get hs'.lo hkr hgk)
    have k3 := c3.get s2.lo hkr k2
    have hlen : (nD rows).length ≤ 1000000 := by simp [nD, nI]; omega
    have ht0 : 0 < to := by omega
    have hmod : 0 ≤ iI % to ∧ iI % to ≤ 1000 := ⟨Int.emod_nonneg _ (by omega), by have := Int.emod_lt_of_pos iI ht0; omega⟩
    have hpw := pow_b (a := (iI % to).toNat) (t := to.toNat) (by have := Int.emod_lt_of_pos iI ht0; omega)
    have q1 := band_b a0 a1 b0
    have q2 := bor_b q1.1 q1.2 hpw.1 hpw.2
    obtain ⟨w, hw⟩ : ∃ w : Int, w = Builtin.bitOr (Builtin.bitAnd v1 v2) (2 ^ (iI % to).toNat) := ⟨_, rfl⟩
    rw [← hw] at q2
    have hcc := (c1.trans hs' c2)
    have hfin : ∀ (b : Bool) (Tx : Cs), StAt O Tx r → Chg O r T Tx → getC O Tx k = some (.lst (nD rows)) → ∃ rows' : List Nat, rows'.length = i + 1 ∧ (∀ r ∈ rows', r < 2 ^ to.toNat) ∧ StAt O (Tx.set (k - O.length) (.lst (nD rows ++ [.int (w * (if b = true then 1 else 0))]))) r ∧ Chg O r T (Tx.set (k - O.length) (.lst (nD rows ++ [.int (w * (if b = true then 1 else 0))]))) ∧ getC O (Tx.set (k - O.length) (.lst (nD rows ++ [.int (w * (if b = true then 1 else 0))]))) k = some (.lst (nD rows')) := by
      intro b Tx hsx hcx hgx
      have hv : 0 ≤ w * (if b = true then 1 else 0) ∧ w * (if b = true then 1 else 0) < 2 ^ to.toNat := by
        cases b
        · simp [hM]
        · simp [q2]
      refine ⟨rows ++ [(w * (if b = true then 1 else 0)).toNat], by simp [hrl'], fun r hr => ?_, hsx.setb (by omega), hcx.setb (by omega), ?_⟩
      · rw [List.mem_append] at hr
        rcases hr with hr | hr
        · exact hrb r hr
        · simp only [List.mem_singleton] at hr
          subst hr
          have e : ((2 : Int) ^ to.toNat) = ((2 ^ to.toNat : Nat) : Int) := by simp
          rw [e] at hv
          omega
      · rw [set_get hgx (by omega), snocN rows _ hv.1]
    have mo : ∀ b : Bool, mulOk w (if b = true then 1 else 0) = true := fun b => mul_ok (by cases b <;> decide)
    have ty2 : tyU O T2 (.ref k) = some .list := by rw [tyU_ref, k2]
    have a2 := fun v => app_at (O := O) v k2 hlen (by omega)
    have a3 := fun v => app_at (O := O) v k3 hlen (by omega)
    have f2 := hfin true T2 s2 (hc'.trans hs hcc) k2
    have f3 := fun b => hfin b T3 s3 ((hc'.trans hs hcc).trans hs c3) k3
    clear hu hw0 hfin
    generalize nD rows = R at *
    by_cases hz : iI = 0
    · have m1 := mo true
      simp only [if_true] at m1 f2
      simp [m1, hto, ht0, hmod, e1, e2, ← hw, ty2, -tyU_ref, -appU_eq, a2]
      exact ⟨fun _ => by simpa using f2, fun h => absurd hz h⟩
    · have m3 := mo (decide (0 < v3))
      have f3 := f3 (decide (0 < v3))
      simp only [decide_eq_true_eq] at m3 f3
      simp [hz, hto, ht0, hmod, e1, e2, ← hw, ty2, -tyU_ref, -appU_eq, e3, m3, a3]
      simpa using f3
  · rintro ρ T' ⟨rows, x, y, hrl', hrb, hs', hc', hgk, rfl⟩
    simp only [rngU_len] at hrl'
    have htb : tupleB O T' (.ref k) = .ok (.d (.tuple (nD rows))) T' := by
      rw [tupleB_ref, seqL_ref, hgk]
      simp
    simp [htb]
    exact ⟨rows, ⟨hrl', hrb⟩, rfl, hs', hc'⟩
theorem comp_m0 {C : Cn} {O T T0 : Cs} {ρ : Rho} {elt t : CE} {g : Tg} {it : IT} {own : List Nat} {us : List U} {w : Option Nat} {tt : Cs} {ds : List Y.D} (he : denI C O ρ it T = .ok ⟨us, w, tt⟩ T0) (hw : ∀ acc, sameW O tt (T0 ++ [.lstU acc]) w = true) (hlen : ds.length = us.length) (h : ∀ (i : Nat) (u : U) (d : Y.D), us[i]? = some u → ds[i]? = some d → ∀ acc, Turn1 C O ρ elt t g own (T0 ++ [.lstU acc]) u (some (.d d))) (hl : us.length ≤ 1000000) :
    den C O ρ (.comp false elt g it t own) T = .ok (.d (.list ds)) T0 := by
  have hd : (ds.map fun d => some (U.d d)).filterMap id = ds.map .d := by
    clear he hw hlen h hl
    induction ds with
    | nil => rfl
    | cons a l ih => simp [List.filterMap_map, Function.comp_def]
  rw [den, he, R.bind_ok]
  refine (congrArg (fun r : R Unit => r.bind fun _ T' => compE O false T0 T') (comp_runI (ds.map fun d => some (U.d d)) hw (by simpa using hlen) (fun i u r h1 h2 acc => by
    rw [List.getElem?_map, Option.map_eq_some_iff] at h2
    obtain ⟨d, hd, rfl⟩ := h2
    exact h i u d h1 hd acc) hl)).trans ?_
  show compE O false T0 _ = _
  unfold compE
  have e5 : (T0 ++ [Cell.lstU ((ds.map fun d => some (U.d d)).filterMap id)])[T0.length]? = some (.lstU ((ds.map fun d => some (U.d d)).filterMap id)) := by simp
  simp only [e5, hd, allD_map]
  simp [beqCs_r]
def edgeR (jn jc jt : Nat) (mk : Int) : CB := (.cons (.asg (.nm 9) (.call true jc (.cons (.v 4) .nil) [])) (.cons (.ite (.cmp .gt (.call true jn (.cons (.v 4) (.cons (.v 3) .nil)) []) (.c (.int 0))) (.cons (.ret (.tup (.cons (.c (.str "step")) (.cons (.v 7) (.cons (.v 8) (.cons (.v 9) (.cons (.call true jt (.cons (.v 4) (.cons (.v 6) (.cons (.v 6) .nil))) []) .nil))))))) .nil) .nil) (.cons (.asg (.nm 10) (.call true jn (.cons (.v 4) (.cons (.bi false .len (.cons (.v 1) .nil)) .nil)) [])) (.cons (.asg (.nm 11) (.ix (.ix (.v 1) (.v 10)) (.c (.int 1)))) (.cons (.asg (.nm 12) (.call true jt (.cons (.v 4) (.cons (.v 6) (.cons (.v 11) .nil))) [])) (.cons (.asg (.nm 13) (.call true jt (.cons (.v 4) (.cons (.v 11) (.cons (.v 6) .nil))) [])) (.cons (.asg (.nm 14) (.bi false .tuple (.cons (.comp false (.bin false .band (.bin false .band (.v 15) (.c (.int mk))) (.bin false .sub (.bin false .shl (.c (.int 1)) (.v 6)) (.c (.int 1)))) (.nm 15) (.tup (.call true jt (.cons (.v 4) (.cons (.v 6) (.cons (.v 6) .nil))) [])) (.c (.bool true)) [15]) .nil))) (.cons (.ret (.tup (.cons (.c (.str "call")) (.cons (.v 7) (.cons (.v 8) (.cons (.v 9) (.cons (.v 10) (.cons (.v 12) (.cons (.v 13) (.cons (.v 14) .nil)))))))))) .nil))))))))
def edgeNB (jn jc jt : Nat) (mk : Int) : CB := (.cons (.asg (.nm 4) (.lst true (.cons (.bin false .add (.bin false .mod (.v 0) (.c (.int 2147483629))) (.c (.int 7))) .nil))) (.cons (.asg (.tp (.cons (.nm 5) (.cons (.nm 6) .nil))) (.ix (.v 1) (.v 2))) (.cons (.asg (.nm 7) (.call true jn (.cons (.v 4) (.cons (.v 5) .nil)) [])) (.cons (.asg (.nm 8) (.call true jn (.cons (.v 4) (.cons (.v 5) .nil)) [])) (.cons (.ite (.cmp .gt (.call true jn (.cons (.v 4) (.cons (.c (.int 3)) .nil)) []) (.c (.int 0))) (.cons (.asg (.nm 8) (.bi false .min2 (.cons (.bin false .add (.v 7) (.c (.int 1))) (.cons (.bin false .sub (.v 5) (.c (.int 1))) .nil)))) .nil) .nil) (edgeR jn jc jt mk))))))
def EdgeNOk (C : Cn) (je : Nat) : Prop := ∀ (O T : Cs) (r : Nat) (s : Sz) (c f m : Int), SzOk s → getC O T r = some (.lst (szD s)) → 0 ≤ f → f < s.length → 0 < m → ∃ (e : Ed) (g : Cs), EdOk s f.toNat e ∧ C.call O je [.d (.int c), .ref r, .d (.int f), .d (.int m)] T = .ok (.d e.d) (T ++ g)
theorem chg_new {O T T' : Cs} {s0 : Int} (h : Chg O (O.length + T.length) (T ++ [.lst [.int s0]]) T') : ∃ g, T' = T ++ g := by
  obtain ⟨s, g, rfl⟩ := h
  refine ⟨[.lst [.int s]] ++ g, ?_⟩
  rw [show O.length + T.length - O.length = T.length by omega, List.set_append_right (h := Nat.le_refl _)]
  simp
@[simp] theorem biU_min2 (O T : Cs) (l : Bool) (a b : Int) : biU O l .min2 [.d (.int a), .d (.int b)] T = .ok (.d (.int (if b < a then b else a))) T := rfl
section
variable {C : Cn} {jn jc jt : Nat}
theorem over_ok (ht : TableNOk C jt) (O T : Cs) (k : Nat) (n mk : Int) (hs : StAt O T k) (n1 : 1 ≤ n) (n6 : n ≤ 6) (m0 : 0 ≤ mk) (ρ : Rho) (h4 : ρ[4]? = some (some (.ref k))) (h6 : ρ[6]? = some (some (.d (.int n)))) (h15 : 15 < ρ.length) : ∃ (tb : List Nat) (T' : Cs), TbIn tb n n ∧ StAt O T' k ∧ Chg O k T T' ∧ den C O ρ (.comp false (.bin false .band (.bin false .band (.v 15) (.c (.int mk))) (.bin false .sub (.bin false .shl (.c (.int 1)) (.v 6)) (.c (.int 1)))) (.nm 15) (.tup (.call true jt (.cons (.v 4) (.cons (.v 6) (.cons (.v 6) .nil))) [])) (.c (.bool true)) [15]) T = .ok (.d (.list (nD tb))) T' := by
  obtain ⟨tb, T', hb, hs', hc', e⟩ := ht O T k n n hs (by omega) n6 n1 n6
  have hpw : ((2 : Int) ^ n.toNat) = ((2 ^ n.toNat : Nat) : Int) := by simp
  obtain ⟨m, hm⟩ := Int.eq_ofNat_of_zero_le m0
  have hp1 : ((2 : Int) ^ n.toNat - 1) = ((2 ^ n.toNat - 1 : Nat) : Int) := by
    have : 1 ≤ 2 ^ n.toNat := Nat.one_le_two_pow
    rw [hpw]
    omega
  refine ⟨tb.map fun x => x &&& m &&& (2 ^ n.toNat - 1), T', ⟨by simp [hb.1], fun r hr => ?_⟩, hs', hc', ?_⟩
  · obtain ⟨x, hx, rfl⟩ := List.mem_map.mp hr
    have h1 : x &&& m &&& (2 ^ n.toNat - 1) ≤ x := Nat.le_trans Nat.and_le_left Nat.and_le_left
    have := hb.2 x hx
    omega
  · refine comp_m0 (us := (nD tb).map .d) (w := none) (tt := T') ?_ (fun _ => rfl) (by simp [nD, nI]) ?_ (by have := hb.1; simp [nD, nI]; omega)
    · simp [h4, h6, e]
    · intro i u d hu hd acc
      rw [List.getElem?_map, Option.map_eq_some_iff] at hu
      obtain ⟨a, ha, rfl⟩ := hu
      obtain ⟨x, hx, rfl⟩ := nD_gt ha
      obtain ⟨y, hy, rfl⟩ := nD_gt hd
      rw [List.getElem?_map, hx] at hy
      simp only [Option.map_some, Option.some.injEq] at hy
      subst hy
      refine turn_all (asgT_nm _ _ _ _ _) ?_
      have hn : 0 ≤ n ∧ n ≤ 1000 := by omega
      have hv : Builtin.bitAnd (Builtin.bitAnd (x : Int) mk) (2 ^ n.toNat - 1) = ((x &&& m &&& (2 ^ n.toNat - 1) : Nat) : Int) := by
        rw [hm, hp1]
        show Builtin.bitAnd (Builtin.bitAnd ((x : Nat) : Int) ((m : Nat) : Int)) _ = _
        rw [bitAnd_n, bitAnd_n]
      have q15 : ((wipeR ρ [15]).set 15 (some (U.d (.int (x : Int)))))[15]? = some (some (.d (.int (x : Int)))) := by simp [wipeR, h15]
      have q6 : ((wipeR ρ [15]).set 15 (some (U.d (.int (x : Int)))))[6]? = some (some (.d (.int n))) := by simp [wipeR, h6]
      rw [← hv]
      generalize (wipeR ρ [15]).set 15 (some (U.d (.int (x : Int)))) = ρ' at q15 q6 ⊢
      generalize (x : Int) = xI at *
      simp [q15, q6, hn]
theorem edgeR_ok (hn : NextOk C jn) (hcs : CostOk C jc) (ht : TableNOk C jt) (mk : Int) (mk0 : 0 ≤ mk) (O T1 T : Cs) (s0 : Int) (r k : Nat) (hk : k = O.length + T.length) (s : Sz) (hs : SzOk s) (hT : getC O T r = some (.lst (szD s))) (hst : StAt O T1 k) (hch : Chg O k (T ++ [.lst [.int s0]]) T1) (h1 : getC O T1 r = some (.lst (szD s))) (hrk : r ≠ k) (f P nn p q m : Int) (m0 : 0 < m) (hf : s[f.toNat]? = some (P, nn)) (hp : 0 ≤ p ∧ p < P) (hq : 0 ≤ q ∧ q < P) (ua uf : Option U) (nx bk ct : Rho → Cs → Prop) :
    Wp (denB C O (edgeR jn jc jt mk) [ua, some (.ref r), uf, some (.d (.int m)), some (.ref k), some (.d (.int P)), some (.d (.int nn)), some (.d (.int p)), some (.d (.int q)), none, none, none, none, none, none, none] T1) nx bk ct (fun u T' => ∃ (e : Ed) (g : Cs), EdOk s f.toNat e ∧ u = .d e.d ∧ T' = T ++ g) := by
  have hb := hs.2 _ (List.mem_of_getElem? hf)
  simp only at hb
  obtain ⟨c, T2, a0, a1, s2, c2, e2⟩ := hcs O T1 k hst
  obtain ⟨v, T3, b0, b1, s3, c3, e3⟩ := hn.chg O T2 k m s2 m0
  obtain ⟨t, T4, d0, s4, c4, e4⟩ := ht O T3 k nn nn s3 (by omega) (by omega) (by omega) (by omega)
  have g3 : getC O T3 r = some (.lst (szD s)) := c3.get s2.lo hrk (c2.get hst.lo hrk h1)
  have hln : (szD s).length = s.length := by simp [szD]
  have hlen := lenB_ref g3
  rw [hln] at hlen
  obtain ⟨g, T5, f0, f1, s5, c5, e5⟩ := hn.chg O T3 k (s.length : Int) s3 (by have := hs.1.1; omega)
  have g5 := c5.get s3.lo hrk g3
  obtain ⟨Q, mm, hg, hbg, hxg⟩ := sz_at hs f0 f1
  have ix5 := ixU_at g5 hxg
  obtain ⟨t1, T6, i0, s6, c6, e6⟩ := ht O T5 k nn mm s5 (by omega) (by omega) (by omega) (by omega)
  obtain ⟨t2, T7, j0, s7, c7, e7⟩ := ht O T6 k mm nn s6 (by omega) (by omega) (by omega) (by omega)
  obtain ⟨t3, T8, k0, s8, c8, e8⟩ := over_ok ht O T7 k nn mk s7 (by omega) (by omega) mk0 [ua, some (.ref r), uf, some (.d (.int m)), some (.ref k), some (.d (.int P)), some (.d (.int nn)), some (.d (.int p)), some (.d (.int q)), some (.d (.int c)), some (.d (.int g)), some (.d (.int mm)), some (.d (.tuple (nD t1))), some (.d (.tuple (nD t2))), none, none] rfl rfl (by simp)
  have hst0 : StAt O (T ++ [.lst [.int s0]]) k := ⟨by omega, s0, by rw [hk, show O.length + T.length - O.length = T.length by omega]; simp⟩
  have w3 := (hch.trans hst0 c2).trans hst0 c3
  have w4 := w3.trans hst0 c4
  have w8 := (((w3.trans hst0 c5).trans hst0 c6).trans hst0 c7).trans hst0 c8
  rw [hk] at w4 w8
  obtain ⟨g4, hg4⟩ := chg_new w4
  obtain ⟨g8, hg8⟩ := chg_new w8
  have r4 : ∃ (e : Ed) (g : Cs), EdOk s f.toNat e ∧ U.d (.tuple [.str "step", .int p, .int q, .int c, .tuple (nD t)]) = .d e.d ∧ T4 = T ++ g := ⟨.st p q c t, g4, ⟨P, nn, hf, ⟨hp.1, hp.2, hq.1, hq.2, a0, a1⟩, d0⟩, rfl, hg4⟩
  have r8 : ∃ (e : Ed) (gs : Cs), EdOk s f.toNat e ∧ U.d (.tuple [.str "call", .int p, .int q, .int c, .int g, .tuple (nD t1), .tuple (nD t2), .tuple (nD t3)]) = .d e.d ∧ T8 = T ++ gs := ⟨.ca p q c g t1 t2 t3, g8, ⟨P, nn, Q, mm, hf, f0, f1, hg, ⟨hp.1, hp.2, hq.1, hq.2, a0, a1⟩, i0, j0, k0⟩, rfl, hg8⟩
  have at1 : L2.atI [PyData.int Q, .int mm] 1 = some (.int mm) := rfl
  have hm8 : ∀ a b c d e f g h : D, mkT [.d a, .d b, .d c, .d d, .d e, .d f, .d g, .d h] = .d (.tuple [a, b, c, d, e, f, g, h]) := fun _ _ _ _ _ _ _ _ => rfl
  clear w3 w4 w8 hg4 hg8 hst0 hch
  generalize nD t = tt at *
  generalize nD t1 = tt1 at *
  generalize nD t2 = tt2 at *
  generalize nD t3 = tt3 at *
  generalize (s.length : Int) = ln at *
  unfold edgeR
  generalize (CE.comp false (.bin false .band (.bin false .band (.v 15) (.c (.int mk))) (.bin false .sub (.bin false .shl (.c (.int 1)) (.v 6)) (.c (.int 1)))) (.nm 15) (.tup (.call true jt (.cons (.v 4) (.cons (.v 6) (.cons (.v 6) .nil))) [])) (.c (.bool true)) [15]) = CC at *
  simp [e2, e3, e4, hlen, e5, ix5, at1, e6, e7, e8, hm8]
  exact ⟨fun _ => by simpa using r4, fun _ => by simpa using r8⟩
end
theorem edgeN_run {G : Pg} {jn jc jt je : Nat} {mk : Int} (mk0 : 0 ≤ mk) (hG : G.defs je = some ⟨4, 16, edgeNB jn jc jt mk⟩) (n : Nat) (hn : NextOk (cn G n) jn) (hcs : CostOk (cn G n) jc) (ht : TableNOk (cn G n) jt) : EdgeNOk (cn G (n + 1)) je := by
  intro O T r s c f m hs hT f0 f1 m0
  suffices hg : Gv (Y.run G (n + 1) O je [.d (.int c), .ref r, .d (.int f), .d (.int m)] T) fun u T' => ∃ (e : Ed) (g : Cs), EdOk s f.toNat e ∧ u = .d e.d ∧ T' = T ++ g by
    obtain ⟨u, T', e, ed, g, h1, rfl, rfl⟩ := hg.ex
    exact ⟨ed, g, h1, e⟩
  refine run_wp hG rfl ?_
  generalize cn G n = C at *
  obtain ⟨P, nn, hf, hb, hx⟩ := sz_at hs f0 f1
  obtain ⟨s0, hs0⟩ : ∃ s0 : Int, s0 = c % 2147483629 + 7 := ⟨_, rfl⟩
  have hst : StAt O (T ++ [.lst [.int s0]]) (O.length + T.length) := ⟨by omega, s0, by rw [show O.length + T.length - O.length = T.length by omega]; simp⟩
  have hrk : r ≠ O.length + T.length := by
    intro e
    rw [getC_eq, e] at hT
    have := (List.getElem?_eq_some_iff.mp hT).1
    simp at this
  have g0 : getC O (T ++ [.lst [.int s0]]) r = some (.lst (szD s)) := getC_app hT
  have ix0 := ixU_at g0 hx
  obtain ⟨k, hk⟩ : ∃ k, k = O.length + T.length := ⟨_, rfl⟩
  rw [← hk] at hst hrk
  obtain ⟨p, T1, a0, a1, s1, c1, e1⟩ := hn.chg O _ k P hst (by omega)
  obtain ⟨q, T2, b0, b1, s2, c2, e2⟩ := hn.chg O _ k P s1 (by omega)
  obtain ⟨v, T3, d0, d1, s3, c3, e3⟩ := hn.chg O _ k 3 s2 (by decide)
  have g1 := c1.get hst.lo hrk g0
  have g2 := c2.get s1.lo hrk g1
  have g3 := c3.get s2.lo hrk g2
  have hch := (c1.trans hst c2).trans hst c3
  have hR := fun q hq => edgeR_ok hn hcs ht mk mk0 O T3 T s0 r k hk s hs hT s3 hch g3 hrk f P nn p q m m0 hf ⟨a0, a1⟩ hq (some (.d (.int c))) (some (.d (.int f))) (fun _ T' => ∃ (e : Ed) (g : Cs), EdOk s f.toNat e ∧ (U.d .none : U) = .d e.d ∧ T' = T ++ g) (fun _ _ => False) (fun _ _ => False)
  have hq1 := hR q ⟨b0, b1⟩
  have hq2 := hR (if P - 1 < p + 1 then P - 1 else p + 1) (by split <;> omega)
  have hco : Y.cellOf [U.d (.int s0)] = .lst [.int s0] := rfl
  unfold edgeNB
  generalize edgeR jn jc jt mk = R at *
  clear hR
  generalize hT0 : T ++ [Cell.lst [.int s0]] = T0 at *
  simp [← hs0, hco, ← hk, hT0, ix0, e1, e2, e3]
  exact ⟨fun _ => by simpa using hq2, fun _ => by simpa using hq1⟩
theorem mul_bits {i j : Int} (h : Builtin.Int.intBits i + Builtin.Int.intBits j ≤ 134217728) : mulOk i j = true := by
  unfold mulOk
  simp [h]
def cellNB : CB := (.cons (.ite (.cmp .lt (.v 1) (.bi false .len (.cons (.v 0) .nil))) (.cons (.ret (.ix (.v 0) (.v 1))) .nil) .nil) (.cons (.asg (.nm 2) (.bin false .add (.bin false .mul (.c (.int 6007)) (.v 1)) (.c (.int 29)))) (.cons (.ite (.cmp .gt (.bi false .len (.cons (.v 0) .nil)) (.c (.int 0))) (.cons (.asg (.nm 2) (.bin false .add (.v 2) (.bin false .mul (.c (.int 40961)) (.ix (.v 0) (.bin false .mod (.bin false .mul (.c (.int 7)) (.v 1)) (.bi false .len (.cons (.v 0) .nil))))))) .nil) .nil) (.cons (.ret (.bin false .mod (.bin false .mul (.v 2) (.v 2)) (.c (.int 1000081)))) .nil))))
def CellNOk (C : Cn) (jc : Nat) (ua : U) : Prop := ∀ (O T : Cs) (k : Int), 0 ≤ k → k ≤ 100 → ∃ w : Int, callP C O jc [ua, .d (.int k)] T = .ok (.d (.int w)) T
theorem cellN_run {G : Pg} {jc : Nat} (hG : G.defs jc = some ⟨2, 3, cellNB⟩) (n : Nat) (ns : List Int) (hl : ns.length ≤ 63) (hb : ∀ z ∈ ns, Builtin.Int.intBits z ≤ 1048576) (ua : U) (hua : ua = .d (.list (ns.map .int))) : CellNOk (cn G (n + 1)) jc ua := by
  intro O T k k0 k1
  suffices hg : Gv (Y.run G (n + 1) (O ++ T) jc [ua, .d (.int k)] []) fun u T' => ∃ w : Int, u = .d (.int w) by
    obtain ⟨u, T', e, w, rfl⟩ := hg.ex
    exact ⟨w, callP_r O T e⟩
  refine run_wp hG rfl ?_
  have hlb : ∀ O T, lenB O T ua = .ok (.d (.int ns.length)) T := fun O T => by rw [hua, lenB_L]; simp
  have hix : ∀ O T (i : Int), 0 ≤ i → i < (ns.length : Int) → ∃ w : Int, ixU O ua (.d (.int i)) T = some (.d (.int w)) ∧ Builtin.Int.intBits w ≤ 1048576 := by
    intro O T i i0 h
    have hlt : i.toNat < ns.length := by omega
    refine ⟨ns[i.toNat], ?_, hb _ (List.getElem_mem _)⟩
    rw [hua, ixU_L, atI_nat _ _ i0 (by simp; omega), List.getElem?_map, List.getElem?_eq_getElem hlt]
    rfl
  clear hua
  have hlb := hlb (O ++ T)
  have hix := hix (O ++ T)
  have hl0 : 0 ≤ (ns.length : Int) := by omega
  generalize (ns.length : Int) = ln at hlb hix hl0
  generalize O ++ T = O at hlb hix ⊢
  have m1 : mulOk 6007 k = true := mul_okL (by decide)
  have m2 : mulOk 7 k = true := mul_okL (by decide)
  have e64 : (2 : Nat) ^ 64 = 18446744073709551616 := by decide
  have b0 : Builtin.Int.intBits (6007 * k + 29) ≤ 64 := PySem.intBits_le_iff.mpr (by rw [e64]; omega)
  have m3 : mulOk (6007 * k + 29) (6007 * k + 29) = true := mul_bits (by omega)
  by_cases h0 : 0 < ln
  · obtain ⟨w, hw, hwb⟩ := hix [] (7 * k % ln) (Int.emod_nonneg _ (by omega)) (Int.emod_lt_of_pos _ h0)
    have m4 : mulOk 40961 w = true := mul_okL (by decide)
    have b1 := PySem.intBits_mul_le (m := 64) (x := 40961) (PySem.intBits_le_iff.mpr (by rw [e64]; decide)) hwb
    have b2 := PySem.intBits_add_le b0 b1
    have m5 : mulOk (6007 * k + 29 + 40961 * w) (6007 * k + 29 + 40961 * w) = true := mul_bits (by omega)
    by_cases hk : k < ln
    · obtain ⟨x, hx, _⟩ := hix [] k k0 hk
      unfold cellNB
      simp [hlb, hk, hx]
    · unfold cellNB
      simp [hlb, hk, m1, m2, h0, hw, m4, m5]
  · have hk : ¬ k < ln := by omega
    unfold cellNB
    simp [hlb, hk, m1, h0, m3]
section
variable {C : Cn} {O : Cs}
/-- the empty lists -/
theorem edgesG {a c : Nat} (s : Sz) (hs : SzOk s) (ρ : Rho) (h3 : ρ[a]? = some (some (.ref O.length))) (h8 : c < ρ.length) : den C O ρ (.comp true (.lst true .nil) (.nm c) (.lst (.v a)) (.c (.bool true)) [c]) [.lst (szD s)] = .ok (.ref (O.length + 1)) (.lst (szD s) :: .lstU (refs O.length s.length) :: List.replicate s.length (lstE [])) := by
  have hln : (szD s).length = s.length := by simp [szD]
  have hsq : seqL O [.lst (szD s)] (.ref O.length) = some ((szD s).map .d) := by simp
  have k := comp_st (C := C) (O := O) (T := [.lst (szD s)]) (T0 := [.lst (szD s)]) (ρ := ρ) (elt := .lst true .nil) (t := .c (.bool true)) (g := .nm c) (it := .lst (.v a)) (own := [c]) (us := (szD s).map .d) (w := some O.length) (tt := [.lst (szD s)]) (live := true)
    (fun i => .lst (szD s) :: .lstU (refs O.length i) :: List.replicate i (lstE [])) (by
      rw [denI, den_v, h3]
      simp only [R.bind_ok, hsq]
      rfl) (by rfl) (by
      intro i u hu
      have hi : i < s.length := by
        have := (List.getElem?_eq_some_iff.mp hu).1
        simpa [hln] using this
      refine ⟨sameW_refl (c := .lst (szD s)) (by simp) (by simp) (.inl ⟨_, rfl⟩), _, rfl, by simp, .ref (O.length + (2 + i)), .lst (szD s) :: .lstU (refs O.length i) :: (List.replicate i (lstE []) ++ [lstE []]), ?_, ?_⟩
      · simp [lstE]
        omega
      · rw [putC_at (acc := refs O.length i) rfl (by rw [refs_len]; have := hs.1.2; omega)]
        simp only [List.length_cons, List.length_nil, List.set_cons_succ, List.set_cons_zero, refs_S, List.replicate_succ']) (sameW_refl (c := .lst (szD s)) (by simp) (by simp) (.inl ⟨_, rfl⟩))
  rw [k]
  simp only [List.length_map, hln]
  have e5 : (Cell.lst (szD s) :: .lstU (refs O.length s.length) :: List.replicate s.length (lstE []))[[Cell.lst (szD s)].length]? = some (.lstU (refs O.length s.length)) := rfl
  unfold compE
  simp only [e5]
  rw [if_pos trivial, refs_cell (by have := hs.1.1; omega)]
  rfl

theorem end_eltG {a b f : Nat} (haf : f ≠ a) (hbf : f ≠ b) (ρ : Rho) (T T' : Cs) (i : Int) (j : Nat) (sz : List D) (rf : List U) (P n : Int) (es : List D) (h3 : ρ[a]? = some (some (.ref O.length))) (h5 : ρ[b]? = some (some (.ref (O.length + 1)))) (h4 : f < ρ.length)
    (g0 : getC O T O.length = some (.lst sz)) (hx : L2.atI sz i = some (.tuple [.int P, .int n])) (g1 : getC O T (O.length + 1) = some (.lstU rf)) (hre : L2.atI rf i = some (.ref (O.length + j))) (gj : getC O T (O.length + j) = some (.lst es)) (hlt : j < T.length) (hS : T.set j .dead = T') :
    den C O ((wipeR ρ [f]).set f (some (.d (.int i)))) (.tup (.cons (.ix (.ix (.v a) (.v f)) (.c (.int 0))) (.cons (.ix (.ix (.v a) (.v f)) (.c (.int 1))) (.cons (.frz (.ix (.v b) (.v f))) .nil)))) T = .ok (.d (.tuple [.int P, .int n, .list es])) T' := by
  have a0 : ixU O (.ref O.length) (.d (.int i)) T = some (.d (.tuple [.int P, .int n])) := ixU_at g0 hx
  have a1 : ixU O (.ref (O.length + 1)) (.d (.int i)) T = some (.ref (O.length + j)) := ixU_atU g1 hre
  have z0 : L2.atI [PyData.int P, PyData.int n] 0 = some (.int P) := rfl
  have z1 : L2.atI [PyData.int P, PyData.int n] 1 = some (.int n) := rfl
  have hf : frzU O (.ref (O.length + j)) T = .ok (.d (.list es)) T' := by
    unfold frzU
    simp [gj, hlt, hS]
  have q3 : ((wipeR ρ [f]).set f (some (U.d (.int i))))[a]? = some (some (.ref O.length)) := by simp [wipeR, h3, List.getElem?_set_ne haf]
  have q5 : ((wipeR ρ [f]).set f (some (U.d (.int i))))[b]? = some (some (.ref (O.length + 1))) := by simp [wipeR, h5, List.getElem?_set_ne hbf]
  have q4 : ((wipeR ρ [f]).set f (some (U.d (.int i))))[f]? = some (some (.d (.int i))) := by simp [wipeR, h4]
  generalize (wipeR ρ [f]).set f (some (U.d (.int i))) = ρ' at q3 q4 q5 ⊢
  simp [q3, q4, q5, a0, a1, z0, z1, hf]

/-- the chart, made of its lists -/
theorem chart_endG {a b f : Nat} (haf : f ≠ a) (hbf : f ≠ b) (g : Cs) (s : Sz) (hs : SzOk s) (ess : List (List Ed)) (hl : ess.length = s.length) (ρ : Rho) (h3 : ρ[a]? = some (some (.ref O.length))) (h5 : ρ[b]? = some (some (.ref (O.length + 1)))) (h4 : f < ρ.length) :
    ∃ T', den C O ρ (.comp false (.tup (.cons (.ix (.ix (.v a) (.v f)) (.c (.int 0))) (.cons (.ix (.ix (.v a) (.v f)) (.c (.int 1))) (.cons (.frz (.ix (.v b) (.v f))) .nil)))) (.nm f) (.rng1 (.bi false .len (.cons (.v a) .nil))) (.c (.bool true)) [f]) (.lst (szD s) :: .lstU (refs O.length s.length) :: (ess.map lstE ++ g)) = .ok (.d (.list (chD ((s.zip ess).map fun p => (p.1.1, p.1.2, p.2))))) T' := by
  have hln : (szD s).length = s.length := by simp [szD]
  obtain ⟨s1, s6⟩ := hs.1
  have len0 : ∀ T, lenB O (.lst (szD s) :: T) (.ref O.length) = .ok (.d (.int s.length)) (.lst (szD s) :: T) := by
    intro T
    rw [lenB_ref (ds := szD s) (by simp), hln]
  have hro : rngOk 0 (s.length : Int) = true := by simp [rngOk]; omega
  have hcl : (chD ((s.zip ess).map fun p => (p.1.1, p.1.2, p.2))).length = s.length := by simp [chD, hl]
  generalize hR : chD ((s.zip ess).map fun p => (p.1.1, p.1.2, p.2)) = Rs at hcl
  have k := comp_st (C := C) (O := O) (T := .lst (szD s) :: .lstU (refs O.length s.length) :: (ess.map lstE ++ g)) (T0 := .lst (szD s) :: .lstU (refs O.length s.length) :: (ess.map lstE ++ g)) (ρ := ρ) (elt := .tup (.cons (.ix (.ix (.v a) (.v f)) (.c (.int 0))) (.cons (.ix (.ix (.v a) (.v f)) (.c (.int 1))) (.cons (.frz (.ix (.v b) (.v f))) .nil)))) (t := .c (.bool true)) (g   := .nm f) (it := .rng1 (.bi false .len (.cons (.v a) .nil))) (own := [f]) (us := rngU 0 s.length 1) (w := none) (tt := .lst (szD s) :: .lstU (refs O.length s.length) :: (ess.map lstE ++ g)) (live := false)
    (fun i => .lst (szD s) :: .lstU (refs O.length s.length) :: ((List.replicate i .dead ++ (ess.drop i).map lstE) ++ (g ++ [.lstU ((Rs.take i).map .d)]))) (by
      refine rng1_ok (z := (s.length : Int)) ?_ hro (by simp)
      rw [den_bi, denA_cons, den_v, h3]
      simp only [R.bind_ok, denA_nil, biU_len, one_one, len0]) (by simp) (by
      intro i u hu
      obtain ⟨hi, rfl⟩ := rngU_get hu
      have hu0 : (0 + ((i : Nat) : Int) * 1) = ((i : Nat) : Int) := by omega
      rw [hu0]
      obtain ⟨P, n, hf, hb, hx⟩ := sz_at hs (f := (i : Int)) (by omega) (by omega)
      have hie : i < ess.length := by omega
      have hes : ess[i]? = some ess[i] := List.getElem?_eq_getElem hie
      have hd : ess.drop i = ess[i] :: ess.drop (i + 1) := List.drop_eq_getElem_cons hie
      have hri : Rs[i]? = some (.tuple [.int P, .int n, .list ((ess[i]).map Ed.d)]) := by
        rw [← hR]
        have hf' : s[i]? = some (P, n) := by simpa using hf
        have hz : (s.zip ess)[i]? = some ((P, n), ess[i]) := List.getElem?_zip_eq_some.mpr ⟨hf', hes⟩
        simp [chD, hz]
      generalize hE : ess[i] = es at *
      refine ⟨rfl, _, rfl, by simp, .d (.tuple [.int P, .int n, .list (es.map Ed.d)]), .lst (szD s) :: .lstU (refs O.length s.length) :: ((List.replicate (i + 1) .dead ++ (ess.drop (i + 1)).map lstE) ++ (g ++ [.lstU ((Rs.take i).map .d)])), ?_, ?_⟩
      · have hre := refs_at O.length s.length (i : Int) (by omega) (by omega)
        simp only [Int.toNat_natCast] at hre
        have hT : (.lst (szD s) :: .lstU (refs O.length s.length) :: ((List.replicate i .dead ++ (ess.drop i).map lstE) ++ (g ++ [.lstU ((Rs.take i).map .d)])) : Cs)[2 + i]? = some (.lst (es.map Ed.d)) := by
          rw [hd, Nat.add_comm 2 i]
          simp only [List.getElem?_cons_succ, List.append_assoc]
          rw [List.getElem?_append_right (by simp)]
          simp [lstE]
        have hS : (.lst (szD s) :: .lstU (refs O.length s.length) :: ((List.replicate i .dead ++ (ess.drop i).map lstE) ++ (g ++ [.lstU ((Rs.take i).map .d)])) : Cs).set (2 + i) .dead = .lst (szD s) :: .lstU (refs O.length s.length) :: ((List.replicate (i + 1) .dead ++ (ess.drop (i + 1)).map lstE) ++ (g ++ [.lstU ((Rs.take i).map .d)])) := by
          rw [hd, Nat.add_comm 2 i]
          simp only [List.set_cons_succ, List.append_assoc]
          rw [List.set_append_right (h := by simp)]
          simp [List.replicate_succ', lstE]
        have hlt : 2 + i < (.lst (szD s) :: .lstU (refs O.length s.length) :: ((List.replicate i .dead ++ (ess.drop i).map lstE) ++ (g ++ [.lstU ((Rs.take i).map .d)])) : Cs).length := (List.getElem?_eq_some_iff.mp hT).1
        have h0 : (.lst (szD s) :: .lstU (refs O.length s.length) :: ((List.replicate i .dead ++ (ess.drop i).map lstE) ++ (g ++ [.lstU ((Rs.take i).map .d)])) : Cs)[0]? = some (.lst (szD s)) := rfl
        have h1 : (.lst (szD s) :: .lstU (refs O.length s.length) :: ((List.replicate i .dead ++ (ess.drop i).map lstE) ++ (g ++ [.lstU ((Rs.take i).map .d)])) : Cs)[1]? = some (.lstU (refs O.length s.length)) := rfl
        generalize (.lst (szD s) :: .lstU (refs O.length s.length) :: ((List.replicate i .dead ++ (ess.drop i).map lstE) ++ (g ++ [.lstU ((Rs.take i).map .d)])) : Cs) = TT at hT hS hlt h0 h1 ⊢
        exact end_eltG haf hbf ρ TT _ (i : Int) (2 + i) _ _ P n (es.map Ed.d) h3 h5 h4 (by rw [getC_0, h0]) hx (by rw [getC_k, h1]) hre (by rw [getC_k, hT]) hlt hS
      · have hTl : (Cell.lst (szD s) :: .lstU (refs O.length s.length) :: (ess.map lstE ++ g)).length = (s.length + g.length) + 2 := by simp [hl]
        rw [hTl]
        have hln2 : (List.replicate (i + 1) Cell.dead ++ (ess.drop (i + 1)).map lstE).length = s.length := by simp; omega
        rw [putC_at (acc := (Rs.take i).map .d) (by
          simp only [List.getElem?_cons_succ]
          rw [List.getElem?_append_right (by omega), hln2, List.getElem?_append_right (by omega)]
          simp) (by simp; omega)]
        simp only [List.set_cons_succ]
        rw [List.set_append_right (h := by omega), hln2, List.set_append_right (h := by omega), List.take_add_one, hri]
        simp) rfl
  rw [k]
  have hul : (rngU 0 s.length 1).length = s.length := rngU_len
  rw [hul]
  have hdr : ess.drop s.length = [] := List.drop_eq_nil_of_le (by omega)
  have hTl : (Cell.lst (szD s) :: .lstU (refs O.length s.length) :: (ess.map lstE ++ g)).length = (s.length + g.length) + 2 := by simp [hl]
  have hta : Rs.take s.length = Rs := List.take_of_length_le (by omega)
  rw [hdr, hta]
  have e5 : (Cell.lst (szD s) :: .lstU (refs O.length s.length) :: ((List.replicate s.length .dead ++ ([] : List (List Ed)).map lstE) ++ (g ++ [.lstU (Rs.map .d)])))[(Cell.lst (szD s) :: .lstU (refs O.length s.length) :: (ess.map lstE ++ g)).length]? = some (.lstU (Rs.map .d)) := by
    rw [hTl]
    simp only [List.getElem?_cons_succ]
    rw [List.getElem?_append_right (by simp), List.getElem?_append_right (by simp)]
    simp
  unfold compE
  simp only [e5, allD_map]
  rw [if_neg (by decide)]
  split
  · exact ⟨_, rfl⟩
  · exact ⟨_, rfl⟩

end
theorem wp_mono2 {r : F} {nx bk ct : Rho → Cs → Prop} {rt rt' : U → Cs → Prop} (h : Wp r nx bk ct rt) (hi : ∀ u T, rt u T → rt' u T) : Wp r nx bk ct rt' := by
  cases r with
  | rt u T => exact hi u T h
  | nx => exact h
  | bk => exact h
  | ct => exact h
  | exc => exact h
  | fail => exact h
def chartNE (je : Nat) : CB := (.cons (.asg (.nm 6) (.bin false .mod (.bin false .add (.bin false .fdiv (.v 7) (.c (.int 5))) (.v 9)) (.bi false .len (.cons (.v 5) .nil)))) (.cons (.ex (.mt false .append (.ix (.v 8) (.v 6)) (.cons (.call true je (.cons (.v 7) (.cons (.v 5) (.cons (.v 6) (.cons (.c (.int 2)) .nil)))) []) .nil))) .nil))
def chartNH (jc : Nat) : CB := (.cons (.asg (.nm 7) (.bin false .fdiv (.call false jc (.cons (.v 0) (.cons (.bin false .add (.c (.int 1)) (.v 6)) .nil)) []) (.c (.int 2)))) (.cons (.ex (.mt false .append (.v 5) (.cons (.tup (.cons (.bin false .add (.c (.int 1)) (.bin false .mod (.v 7) (.v 3))) (.cons (.bin false .add (.c (.int 1)) (.bin false .mod (.bin false .fdiv (.v 7) (.c (.int 16))) (.v 4))) .nil))) .nil))) .nil))
def chartNR (je : Nat) : CB := (.cons (.asg (.nm 8) (.comp true (.lst true .nil) (.nm 10) (.lst (.v 5)) (.c (.bool true)) [10])) (.cons (.for_ (.tp (.cons (.nm 9) (.cons (.nm 7) .nil))) (.enumL (.slc false (.v 0) (.v 1) (.bin false .add (.v 1) (.c (.int 14))))) (chartNE je)) (.cons (.ret (.comp false (.tup (.cons (.ix (.ix (.v 5) (.v 6)) (.c (.int 0))) (.cons (.ix (.ix (.v 5) (.v 6)) (.c (.int 1))) (.cons (.frz (.ix (.v 8) (.v 6))) .nil)))) (.nm 6) (.rng1 (.bi false .len (.cons (.v 5) .nil))) (.c (.bool true)) [6])) .nil)))
def chartNF (jc je : Nat) : CB := (.cons (.for_ (.nm 6) (.rng1 (.bin false .add (.c (.int 1)) (.bin false .mod (.call false jc (.cons (.v 0) (.cons (.c (.int 0)) .nil)) []) (.v 2)))) (chartNH jc)) (chartNR je))
def chartNB (jc je : Nat) : CB := (.cons (.asg (.nm 5) (.lst true .nil)) (.cons (.ite (.cmp .eq (.bin false .mod (.bin false .fdiv (.call false jc (.cons (.v 0) (.cons (.c (.int 0)) .nil)) []) (.c (.int 7))) (.c (.int 8))) (.c (.int 1))) (.cons (.asg (.nm 2) (.c (.int 6))) .nil) .nil) (chartNF jc je)))
section
variable {C : Cn} {O : Cs} {jc je : Nat}
theorem chartNE_ok (he : EdgeNOk C je) (s : Sz) (hs : SzOk s) (ess : List (List Ed)) (g0 : Cs) (hl : ess.length = s.length) (hk : ∀ f es, ess[f]? = some es → ∀ e ∈ es, EdOk s f e) (hm : (ess.map List.length).sum ≤ 1000) (r0 r1 r2 r3 r4 r6 r10 : Option U) (i v : Int) (nx bk ct : Rho → Cs → Prop) (rt : U → Cs → Prop)
    (hN : ∀ (ess' : List (List Ed)) (g' : Cs), ess'.length = s.length → (∀ f es, ess'[f]? = some es → ∀ e ∈ es, EdOk s f e) → (ess'.map List.length).sum = (ess.map List.length).sum + 1 → ∀ r6 : Option U, nx [r0, r1, r2, r3, r4, some (.ref O.length), r6, some (.d (.int v)), some (.ref (O.length + 1)), some (.d (.int i)), r10] (.lst (szD s) :: .lstU (refs O.length s.length) :: (ess'.map lstE ++ g'))) :
    Wp (denB C O (chartNE je) [r0, r1, r2, r3, r4, some (.ref O.length), r6, some (.d (.int v)), some (.ref (O.length + 1)), some (.d (.int i)), r10] (.lst (szD s) :: .lstU (refs O.length s.length) :: (ess.map lstE ++ g0))) nx bk ct rt := by
  have hln : (szD s).length = s.length := by simp [szD]
  obtain ⟨s1, s6⟩ := hs.1
  have gz : ∀ T, getC O (.lst (szD s) :: T) O.length = some (.lst (szD s)) := fun T => by simp
  have g1 : ∀ T, getC O (.lst (szD s) :: .lstU (refs O.length s.length) :: T) (O.length + 1) = some (.lstU (refs O.length s.length)) := fun T => by simp
  have hlen := lenB_ref (gz (.lstU (refs O.length s.length) :: (ess.map lstE ++ g0)))
  rw [hln] at hlen
  obtain ⟨f, hf⟩ : ∃ f : Int, f = (v / 5 + i) % (s.length : Int) := ⟨_, rfl⟩
  have f0 : 0 ≤ f := by rw [hf]; exact Int.emod_nonneg _ (by omega)
  have f1 : f < s.length := by rw [hf]; exact Int.emod_lt_of_pos _ (by omega)
  have hre := refs_at O.length s.length f f0 f1
  have hfl : f.toNat < ess.length := by omega
  have hes : ess[f.toNat]? = some ess[f.toNat] := List.getElem?_eq_getElem hfl
  generalize ess[f.toNat] = es at hes
  obtain ⟨e, gs, hok, ee⟩ := he O (.lst (szD s) :: .lstU (refs O.length s.length) :: (ess.map lstE ++ g0)) O.length s v f 2 hs (gz _) f0 f1 (by decide)
  have hT1 : (.lst (szD s) :: .lstU (refs O.length s.length) :: (ess.map lstE ++ g0)) ++ gs = .lst (szD s) :: .lstU (refs O.length s.length) :: (ess.map lstE ++ (g0 ++ gs)) := by simp
  rw [hT1] at ee
  have hT : ∀ g : Cs, (.lst (szD s) :: .lstU (refs O.length s.length) :: (ess.map lstE ++ g) : Cs)[2 + f.toNat]? = some (.lst (es.map Ed.d)) := by
    intro g
    rw [Nat.add_comm]
    simp only [List.getElem?_cons_succ]
    rw [List.getElem?_append_left (by simpa using hfl)]
    simp [hes, lstE]
  have g2 : ∀ g : Cs, getC O (.lst (szD s) :: .lstU (refs O.length s.length) :: (ess.map lstE ++ g)) (O.length + (2 + f.toNat)) = some (.lst (es.map Ed.d)) := fun g => by rw [getC_k, hT]
  have hxr := ixU_atU (g1 (ess.map lstE ++ g0)) hre
  have hesl : es.length ≤ 1000 := by
    have h1 : es.length ∈ ess.map List.length := List.mem_map.mpr ⟨es, List.mem_of_getElem? hes, rfl⟩
    have := mem_sum h1
    omega
  have hap := app_at (O := O) e.d (g2 (g0 ++ gs)) (by simp; omega) (by omega)
  have hS : (.lst (szD s) :: .lstU (refs O.length s.length) :: (ess.map lstE ++ (g0 ++ gs)) : Cs).set (O.length + (2 + f.toNat) - O.length) (.lst (es.map Ed.d ++ [e.d])) = .lst (szD s) :: .lstU (refs O.length s.length) :: ((ess.set f.toNat (es ++ [e])).map lstE ++ (g0 ++ gs)) := by
    rw [show O.length + (2 + f.toNat) - O.length = f.toNat + 2 by omega]
    simp only [List.set_cons_succ]
    rw [List.set_append_left (h := by simpa using hfl), List.map_set]
    simp [lstE]
  rw [hS] at hap
  have hty : tyU O (.lst (szD s) :: .lstU (refs O.length s.length) :: (ess.map lstE ++ g0)) (.ref (O.length + (2 + f.toNat))) = some .list := by
    rw [tyU_ref, g2]
  have hfin := hN (ess.set f.toNat (es ++ [e])) (g0 ++ gs) (by simp [hl]) (fun f' es' h' e' he' => by
    rw [List.getElem?_set] at h'
    by_cases hff : f.toNat = f'
    · rw [if_pos hff, if_pos hfl] at h'
      cases h'
      rw [List.mem_append] at he'
      rcases he' with he' | he'
      · exact hff ▸ hk _ _ hes e' he'
      · simp at he'
        subst he'
        exact hff ▸ hok
    · rw [if_neg hff] at h'
      exact hk f' es' h' e' he') (sum_set1 e ess f.toNat es hes) (some (.d (.int f)))
  have hpos : (0 : Int) < s.length := by omega
  clear hN hS hT gz g1 g2 hre
  generalize (.lst (szD s) :: .lstU (refs O.length s.length) :: ((ess.set f.toNat (es ++ [e])).map lstE ++ (g0 ++ gs)) : Cs) = T2 at hfin hap
  generalize (.lst (szD s) :: .lstU (refs O.length s.length) :: (ess.map lstE ++ (g0 ++ gs)) : Cs) = T3 at hap ee
  generalize (.lst (szD s) :: .lstU (refs O.length s.length) :: (ess.map lstE ++ g0) : Cs) = T1 at hxr hty ee hlen ⊢
  generalize O.length + (2 + f.toNat) = kk at hap hxr hty
  generalize (s.length : Int) = ln at hlen hf hpos
  generalize O.length + 1 = k1 at hxr hfin ⊢
  unfold chartNE
  simp [hlen, ← hf, hpos, hxr, hty, -tyU_ref, -appU_eq, ee, hap]
  exact hfin
theorem chartNR_ok (he : EdgeNOk C je) (s : Sz) (hs : SzOk s) (ua : U) (a' : Int) (cl : List Int) (hsl : ∀ T, slcU O false ua (some a') (some (a' + 14)) T = .ok (.d (.list (cl.map .int))) T) (hcl : cl.length ≤ 14) (r2 r3 r4 r6 r7 r8 r9 r10 : Option U) (nx bk ct : Rho → Cs → Prop) :
    Wp (denB C O (chartNR je) [some ua, some (.d (.int a')), r2, r3, r4, some (.ref O.length), r6, r7, r8, r9, r10] [.lst (szD s)]) nx bk ct (fun u _ => ∃ ch, ChOk ch ∧ chSz ch = s ∧ u = .d (.list (chD ch))) := by
  unfold chartNR
  have e0 := edgesG (C := C) (O := O) (a := 5) (c := 10) s hs [some ua, some (.d (.int a')), r2, r3, r4, some (.ref O.length), r6, r7, r8, r9, r10] rfl (by simp)
  rw [wp_cons, wpS_asg, e0]
  simp only [F.of_ok, asgT_nm, List.set_cons_zero, List.set_cons_succ, wp_nx, Kc_eq]
  rw [wp_cons]
  refine wp_for ⟨(cl.map fun c => U.d (.int c)).zipIdx.map fun p => mkT [.d (.int (p.2 : Nat)), p.1], none, .lst (szD s) :: .lstU (refs O.length s.length) :: List.replicate s.length (lstE [])⟩ (.lst (szD s) :: .lstU (refs O.length s.length) :: List.replicate s.length (lstE [])) (fun i ρ T => ∃ (ess : List (List Ed)) (g : Cs) (r6 r7 r9 : Option U), ess.length = s.length ∧ (∀ f es, ess[f]? = some es → ∀ e ∈ es, EdOk s f e) ∧ (ess.map List.length).sum = i ∧ T = .lst (szD s) :: .lstU (refs O.length s.length) :: (ess.map lstE ++ g) ∧ ρ = [some ua, some (.d (.int a')), r2, r3, r4, some (.ref O.length), r6, r7, some (.ref (O.length + 1)), r9, r10]) ?_ ?_ (fun _ _ _ _ => rfl) ?_ ?_
  · have hsl' := hsl (.lst (szD s) :: .lstU (refs O.length s.length) :: List.replicate s.length (lstE []))
    generalize (.lst (szD s) :: .lstU (refs O.length s.length) :: List.replicate s.length (lstE []) : Cs) = T at hsl' ⊢
    simp [hsl']
    rfl
  · refine ⟨List.replicate s.length [], [], r6, r7, r9, by simp, fun f es h e he => ?_, by simp, by simp, rfl⟩
    rw [List.getElem?_replicate] at h
    split at h
    · cases h
      cases he
    · cases h
  · rintro i u hu ρ T ⟨ess, g, r6, r7, r9, hl, hk, hsm, rfl, rfl⟩
    have hi : i < cl.length := by
      have := (List.getElem?_eq_some_iff.mp hu).1
      simpa using this
    have hu' : ∃ v : Int, u = .d (.tuple [.int (i : Nat), .int v]) := by
      rw [List.getElem?_map, List.getElem?_zipIdx, List.getElem?_map, List.getElem?_eq_getElem hi] at hu
      simp at hu
      exact ⟨_, hu.symm⟩
    obtain ⟨v, rfl⟩ := hu'
    refine ⟨_, rfl, ?_⟩
    exact chartNE_ok he s hs ess g hl hk (by omega) _ _ _ _ _ _ _ (i : Int) v _ _ _ _ fun ess' g' h1 h2 h3 r6 => ⟨ess', g', r6, _, _, h1, h2, by rw [h3, hsm], rfl, rfl⟩
  · rintro ρ T ⟨ess, g, r6, r7, r9, hl, hk, hsm, rfl, rfl⟩
    have hm : (ess.map List.length).sum ≤ 24 := by
      rw [hsm]
      simp only [List.length_map, List.length_zipIdx]
      omega
    obtain ⟨T', e⟩ := chart_endG (C := C) (O := O) (a := 5) (b := 8) (f := 6) (by decide) (by decide) g s hs ess hl [some ua, some (.d (.int a')), r2, r3, r4, some (.ref O.length), r6, r7, some (.ref (O.length + 1)), r9, r10] rfl rfl (by simp)
    rw [Kc_eq, wp_cons, denS_ret, e]
    refine ⟨_, chart_of s hs ess hl hk hm, ?_, rfl⟩
    unfold chSz
    rw [List.map_map]
    have : ((fun x : Int × Int × List Ed => (x.1, x.2.1)) ∘ fun p : (Int × Int) × List Ed => (p.1.1, p.1.2, p.2)) = Prod.fst := by
      funext p
      rfl
    rw [this, List.map_fst_zip (by omega)]
theorem chartNF_ok (ua : U) (hc : CellNOk C jc ua) (he : EdgeNOk C je) (a' many wide deep : Int) (m1 : 1 ≤ many) (m6 : many ≤ 6) (w1 : 1 ≤ wide) (w10 : wide ≤ 10) (d1 : 1 ≤ deep) (d6 : deep ≤ 6) (cl : List Int) (hsl : ∀ T, slcU O false ua (some a') (some (a' + 14)) T = .ok (.d (.list (cl.map .int))) T) (hcl : cl.length ≤ 14) (nx bk ct : Rho → Cs → Prop) :
    Wp (denB C O (chartNF jc je) [some ua, some (.d (.int a')), some (.d (.int many)), some (.d (.int wide)), some (.d (.int deep)), some (.ref O.length), none, none, none, none, none] [.lst []]) nx bk ct (fun u _ => ∃ ch, ChOk ch ∧ u = .d (.list (chD ch))) := by
  have hR := fun s hs r6 r7 nx bk ct => chartNR_ok (O := O) he s hs ua a' cl hsl hcl (some (.d (.int many))) (some (.d (.int wide))) (some (.d (.int deep))) r6 r7 none none none nx bk ct
  clear hsl
  unfold chartNF
  rw [wp_cons]
  obtain ⟨w0, hw0⟩ := hc O [.lst []] 0 (by decide) (by decide)
  obtain ⟨z, hz⟩ : ∃ z : Int, z = 1 + w0 % many := ⟨_, rfl⟩
  have hz0 : 1 ≤ z ∧ z ≤ 6 := by
    have := Int.emod_nonneg w0 (show many ≠ 0 by omega)
    have := Int.emod_lt_of_pos w0 (show 0 < many by omega)
    omega
  have hm0 : 0 < many := by omega
  refine wp_for ⟨rngU 0 z.toNat 1, none, [.lst []]⟩ [.lst []] (fun i ρ T => ∃ (sz : Sz) (r6 r7 : Option U), sz.length = i ∧ (∀ p ∈ sz, 1 ≤ p.1 ∧ p.1 ≤ 10 ∧ 1 ≤ p.2 ∧ p.2 ≤ 6) ∧ T = [.lst (szD sz)] ∧ ρ = [some ua, some (.d (.int a')), some (.d (.int many)), some (.d (.int wide)), some (.d (.int deep)), some (.ref O.length), r6, r7, none, none, none]) ?_ ?_ (fun _ _ _ _ => rfl) ?_ ?_
  · refine rng1_ok (z := z) ?_ (by simp [rngOk]; omega) rfl
    simp [hw0, hm0, hz]
  · exact ⟨[], none, none, rfl, by simp, rfl, rfl⟩
  · rintro i u hu ρ T ⟨sz, r6, r7, hl, hsz, rfl, rfl⟩
    obtain ⟨hi, rfl⟩ := rngU_get hu
    obtain ⟨iI, hiI⟩ : ∃ iI : Int, iI = (i : Int) := ⟨_, rfl⟩
    have hw0 : (0 + ((i : Nat) : Int) * 1) = iI := by omega
    rw [hw0]
    refine ⟨_, rfl, ?_⟩
    obtain ⟨w, hw⟩ := hc O [.lst (szD sz)] (1 + iI) (by omega) (by omega)
    have hlen : (szD sz).length ≤ 1000000 := by simp [szD]; omega
    have hd0 : 0 < deep := by omega
    have hwd : 0 < wide := by omega
    have q1 := Int.emod_nonneg (w / 2) (show wide ≠ 0 by omega)
    have q2 := Int.emod_lt_of_pos (w / 2) hwd
    have q3 := Int.emod_nonneg (w / 2 / 16) (show deep ≠ 0 by omega)
    have q4 := Int.emod_lt_of_pos (w / 2 / 16) hd0
    have hsn : ∃ sz' : Sz, szD sz ++ [.tuple [.int (1 + w / 2 % wide), .int (1 + w / 2 / 16 % deep)]] = szD sz' ∧ sz'.length = i + 1 ∧ ∀ p ∈ sz', 1 ≤ p.1 ∧ p.1 ≤ 10 ∧ 1 ≤ p.2 ∧ p.2 ≤ 6 := by
      refine ⟨sz ++ [(1 + w / 2 % wide, 1 + w / 2 / 16 % deep)], by simp [szD], by simp [hl], fun x hx => ?_⟩
      rw [List.mem_append] at hx
      rcases hx with hx | hx
      · exact hsz x hx
      · simp at hx
        subst hx
        exact ⟨by omega, by omega, by omega, by omega⟩
    obtain ⟨sz', h1, h2, h3⟩ := hsn
    generalize szD sz = R at h1 hw hlen
    unfold chartNH
    simp [hw, hd0, hwd, hlen, h1]
    exact ⟨sz', h2, fun a b hab => h3 (a, b) hab, rfl⟩
  · rintro ρ T ⟨sz, r6, r7, hl, hsz, rfl, rfl⟩
    have hl : sz.length = z.toNat := by rw [hl]; exact rngU_len
    refine wp_mono2 (hR sz ⟨⟨by omega, by omega⟩, hsz⟩ _ _ _ _ _) fun u T h => ?_
    obtain ⟨ch, h1, h2, h3⟩ := h
    exact ⟨ch, h1, h3⟩
end
theorem cut14 {α : Type} (xs : List α) (a : Int) (h : 0 ≤ a) (m : Int) (hm : 0 ≤ m) : (cut xs (some a) (some (a + m))).length ≤ m.toNat := by
  unfold cut HT.sIx
  simp only [List.length_take, List.length_drop]
  have e1 : ¬ a < 0 := by omega
  have e2 : ¬ a + m < 0 := by omega
  simp [e1, e2]
  omega
theorem chartN_run {G : Pg} {jc je jx : Nat} (hG : G.defs jx = some ⟨5, 11, chartNB jc je⟩) (n : Nat) (ns : List Int) (ua : U) (hua : ua = .d (.list (ns.map .int))) (hc : CellNOk (cn G n) jc ua) (he : EdgeNOk (cn G n) je) (O : Cs) (a' many wide deep : Int) (a0 : 0 ≤ a') (m1 : 1 ≤ many) (m6 : many ≤ 6) (w1 : 1 ≤ wide) (w10 : wide ≤ 10) (d1 : 1 ≤ deep) (d6 : deep ≤ 6) : ∃ ch T', ChOk ch ∧ Y.run G (n + 1) O jx [ua, .d (.int a'), .d (.int many), .d (.int wide), .d (.int deep)] [] = .ok (.d (.list (chD ch))) T' := by
  suffices hg : Gv (Y.run G (n + 1) O jx [ua, .d (.int a'), .d (.int many), .d (.int wide), .d (.int deep)] []) fun u _ => ∃ ch, ChOk ch ∧ u = .d (.list (chD ch)) by
    obtain ⟨u, T', e, ch, h, rfl⟩ := hg.ex
    exact ⟨ch, T', h, e⟩
  refine run_wp hG rfl ?_
  generalize cn G n = C at hc he ⊢
  have hsl : ∀ T, slcU O false ua (some a') (some (a' + 14)) T = .ok (.d (.list ((cut ns (some a') (some (a' + 14))).map .int))) T := by
    intro T
    rw [hua, slcU_L, cut_map, mkL_map]
  have hF := fun many m1 m6 => chartNF_ok (O := O) ua hc he a' many wide deep m1 m6 w1 w10 d1 d6 _ hsl (cut14 ns a' a0 14 (by decide)) (fun _ T' => ∃ ch, ChOk ch ∧ (U.d .none : U) = .d (.list (chD ch))) (fun _ _ => False) (fun _ _ => False)
  have hF1 := hF many m1 m6
  have hF2 := hF 6 (by decide) (by decide)
  obtain ⟨w, hw⟩ := hc O [.lst []] 0 (by decide) (by decide)
  clear hsl hF hua
  unfold chartNB
  generalize chartNF jc je = R at *
  simp [hw]
  exact ⟨fun _ => by simpa using hF2, fun _ => by simpa using hF1⟩
end Y

set_option Elab.async false
set_option linter.all false
set_option maxRecDepth 100000
set_option maxHeartbeats 4000000
namespace Y
open PySem
def edgeAt (ch : Ch) (f k : Int) : Option Ed := if 0 ≤ f ∧ 0 ≤ k then (ch[f.toNat]?).bind fun x => x.2.2[k.toNat]? else none
def Bit (t : List Nat) (d e : Int) : Prop := 0 ≤ d ∧ 0 ≤ e ∧ e < 6 ∧ ∃ r : Nat, t[d.toNat]? = some r ∧ r.testBit e.toNat = true
theorem edge_ok {ch : Ch} (hc : ChOk ch) {f k : Int} {e : Ed} (h : edgeAt ch f k = some e) : 0 ≤ f ∧ 0 ≤ k ∧ ∃ x, ch[f.toNat]? = some x ∧ x.2.2[k.toNat]? = some e ∧ EdOk (chSz ch) f.toNat e := by
  unfold edgeAt at h
  split at h
  · rename_i h0
    rw [Option.bind_eq_some_iff] at h
    obtain ⟨x, hx, he⟩ := h
    exact ⟨h0.1, h0.2, x, hx, he, hc.2.1 _ x hx e (List.mem_of_getElem? he)⟩
  · cases h
theorem sz_of {ch : Ch} {f : Nat} {x : Int × Int × List Ed} (h : ch[f]? = some x) : (chSz ch)[f]? = some (x.1, x.2.1) := by
  simp [chSz, h]
theorem sz_back {ch : Ch} {f : Nat} {P n : Int} (h : (chSz ch)[f]? = some (P, n)) : ∃ x, ch[f]? = some x ∧ x.1 = P ∧ x.2.1 = n := by
  unfold chSz at h
  rw [List.getElem?_map, Option.map_eq_some_iff] at h
  obtain ⟨x, hx, e⟩ := h
  cases e
  exact ⟨x, hx, rfl, rfl⟩
theorem bitT_lt {t : List Nat} {n m d e : Int} (h : TbIn t n m) (hb : Bit t d e) : e < m := by
  obtain ⟨h0, h1, h2, r, hr, ht⟩ := hb
  have hlt := h.2 r (List.mem_of_getElem? hr)
  have h3 := Nat.ge_two_pow_of_testBit ht
  have : e.toNat < m.toNat := (Nat.pow_lt_pow_iff_right (by decide : 1 < 2)).mp (Nat.lt_of_le_of_lt h3 hlt)
  omega
def Ed.ds : Ed → List D
  | .st p q c t => [.str "step", .int p, .int q, .int c, .tuple (nD t)]
  | .ca p q c g a b t => [.str "call", .int p, .int q, .int c, .int g, .tuple (nD a), .tuple (nD b), .tuple (nD t)]
theorem d_ds (e : Ed) : e.d = .tuple (Ed.ds e) := by cases e <;> rfl
theorem fn_at {ch : Ch} {f : Int} {x : Int × Int × List Ed} (h0 : 0 ≤ f) (h : ch[f.toNat]? = some x) : L2.atI (chD ch) f = some (.tuple [.int x.1, .int x.2.1, .list (x.2.2.map Ed.d)]) := by
  have hi := (List.getElem?_eq_some_iff.mp h).1
  rw [atI_nat _ _ h0 (by simp [chD]; omega)]
  simp [chD, h]
theorem es_at {es : List Ed} {k : Int} {e : Ed} (h0 : 0 ≤ k) (h : es[k.toNat]? = some e) : L2.atI (es.map Ed.d) k = some (.tuple (Ed.ds e)) := by
  have hi := (List.getElem?_eq_some_iff.mp h).1
  rw [atI_nat _ _ h0 (by simp; omega)]
  simp [h, d_ds]
theorem ne_same {O T : Cs} {w : Str} (h : lay 0 (.str w)) : cmpU O .ne (.d (.str w)) (.d (.str w)) T = some false := (cmp_same (O := O) (T := T) (x := .d (.str w)) (y := .d (.str w)) rfl rfl (h.shp (by decide)) rfl).2
theorem str_eq {O T : Cs} {a b : Str} (ha : lay 0 (.str a)) (hb : lay 0 (.str b)) : cmpU O .eq (.d (.str a)) (.d (.str b)) T = some (decide (a = b)) := by
  haveI : Decidable ((PyData.str a) = .str b) := decidable_of_iff (a = b) ⟨fun h => by rw [h], fun h => by injection h⟩
  rw [cmp_eqD (ha.shp (by decide)) (hb.shp (by decide)) rfl rfl]
  simp
theorem list_ne {O T : Cs} (ds : List D) (h : shp (.list ds) = true) : cmpU O .ne (.d (.list ds)) (.d (.list [])) T = some (!ds.isEmpty) := by
  have h2 : shp (.list []) = true := rfl
  have h3 : PyData.eqv (.list ds) (.list []) = ds.isEmpty := by
    cases ds <;> rfl
  show (if shp (.list ds) && shp (.list []) then some (!PyData.eqv (.list ds) (.list [])) else none) = _
  rw [h, h2, h3]
  rfl
theorem cut_m1 {α : Type} (xs : List α) (x : α) : cut (xs ++ [x]) none (some (-1)) = xs := by
  unfold cut HT.sIx
  have h3 : (-1 + ((xs.length : Int) + 1)).toNat = xs.length := by omega
  simp [h3]
theorem atI_m1 {α : Type} (xs : List α) (x : α) : L2.atI (xs ++ [x]) (-1) = some x := by
  unfold L2.atI L2.ixN
  have h1 : ¬ (0 ≤ (-1 : Int)) := by decide
  have h2 : 1 ≤ (xs.length : Int) + 1 := by omega
  have h3 : (-1 + ((xs.length : Int) + 1)).toNat = xs.length := by omega
  simp [h1, h2, h3]
theorem isSkip_neg (a : CE) : isSkip (.neg a) = false := rfl
theorem listB_ref {O T : Cs} {r : Nat} {ds : List D} (h : getC O T r = some (.lst ds)) : listB O true T (.ref r) = .ok (.ref (O.length + T.length)) (T ++ [.lst ds]) := by
  unfold listB seqA
  simp [h]
theorem slc_ref {O T : Cs} {r : Nat} {ds : List D} (h : getC O T r = some (.lst ds)) (l k : Option Int) : slcU O false (.ref r) l k T = .ok (.d (.list (cut ds l k))) T := by
  unfold slcU
  simp [h, cut_map]
theorem a5 (a b c d e : D) : L2.atI [a, b, c, d, e] 0 = some a ∧ L2.atI [a, b, c, d, e] 1 = some b ∧ L2.atI [a, b, c, d, e] 2 = some c ∧ L2.atI [a, b, c, d, e] 3 = some d ∧ L2.atI [a, b, c, d, e] 4 = some e := ⟨rfl, rfl, rfl, rfl, rfl⟩
theorem a8 (a b c d e f g h : D) : L2.atI [a, b, c, d, e, f, g, h] 0 = some a ∧ L2.atI [a, b, c, d, e, f, g, h] 1 = some b ∧ L2.atI [a, b, c, d, e, f, g, h] 2 = some c ∧ L2.atI [a, b, c, d, e, f, g, h] 3 = some d ∧ L2.atI [a, b, c, d, e, f, g, h] 4 = some e ∧ L2.atI [a, b, c, d, e, f, g, h] 5 = some f ∧ L2.atI [a, b, c, d, e, f, g, h] 6 = some g ∧ L2.atI [a, b, c, d, e, f, g, h] 7 = some h := ⟨rfl, rfl, rfl, rfl, rfl, rfl, rfl, rfl⟩
def esD (x : Int × Int × List Ed) : List D := x.2.2.map Ed.d
def fnD (x : Int × Int × List Ed) : D := .tuple [.int x.1, .int x.2.1, .list (esD x)]
def ItemR (O T : Cs) (x : Int × Int × List Ed) (w : U) : Prop := w = .d (fnD x) ∨ ∃ j, w = .tup [.d (.int x.1), .d (.int x.2.1), .ref j] ∧ getC O T j = some (.lst (esD x))
def ChRep (O T : Cs) (u : U) (ch : Ch) : Prop := u = .d (.list (chD ch)) ∨ ∃ k rows, u = .ref k ∧ getC O T k = some (.lstU rows) ∧ rows.length = ch.length ∧ ∀ (f : Nat) x, ch[f]? = some x → ∃ j, rows[f]? = some (.tup [.d (.int x.1), .d (.int x.2.1), .ref j]) ∧ getC O T j = some (.lst (esD x))
def Ext (O T O' T' : Cs) : Prop := ∀ i c, getC O T i = some c → getC O' T' i = some c
theorem ItemR.mono {O T O' T' : Cs} {x : Int × Int × List Ed} {w : U} (h : ItemR O T x w) (hm : Ext O T O' T') : ItemR O' T' x w := by
  rcases h with rfl | ⟨j, rfl, hj⟩
  · exact .inl rfl
  · exact .inr ⟨j, rfl, hm _ _ hj⟩
theorem ChRep.mono {O T O' T' : Cs} {ch : Ch} {u : U} (h : ChRep O T u ch) (hm : Ext O T O' T') : ChRep O' T' u ch := by
  rcases h with rfl | ⟨k, rows, rfl, hk, hl, hr⟩
  · exact .inl rfl
  · refine .inr ⟨k, rows, rfl, hm _ _ hk, hl, fun f x hx => ?_⟩
    obtain ⟨j, h1, h2⟩ := hr f x hx
    exact ⟨j, h1, hm _ _ h2⟩
theorem ext_app (O T S : Cs) : Ext O T O (T ++ S) := fun _ _ h => getC_app h
theorem ext_O (O T : Cs) : Ext O T (O ++ T) [] := fun i c h => by rw [getC_O]; exact h
theorem Ext.trans {O T O' T' O'' T'' : Cs} (h : Ext O T O' T') (h' : Ext O' T' O'' T'') : Ext O T O'' T'' := fun i c e => h' i c (h i c e)
theorem ChRep.seq {O T : Cs} {ch : Ch} {u : U} (h : ChRep O T u ch) : ∃ us, seqL O T u = some us ∧ us.length = ch.length ∧ (∀ (f : Nat) x, ch[f]? = some x → ∃ w, us[f]? = some w ∧ ItemR O T x w) ∧ ∀ T', Ext O T O T' → sameW O T T' (watch u) = true := by
  rcases h with rfl | ⟨k, rows, rfl, hk, hl, hr⟩
  · refine ⟨(chD ch).map .d, rfl, by simp [chD], fun f x hx => ⟨.d (fnD x), ?_, .inl rfl⟩, fun T' _ => rfl⟩
    simp [chD, hx, fnD, esD]
  · refine ⟨rows, by simp [hk], hl, fun f x hx => ?_, fun T' hm => sameW_refl hk (hm _ _ hk) (.inr (.inl ⟨_, rfl⟩))⟩
    obtain ⟨j, h1, h2⟩ := hr f x hx
    exact ⟨_, h1, .inr ⟨j, rfl, h2⟩⟩
theorem ItemR.at {O T : Cs} {x : Int × Int × List Ed} {w : U} (h : ItemR O T x w) : ixU O w (.d (.int 0)) T = some (.d (.int x.1)) ∧ ixU O w (.d (.int 1)) T = some (.d (.int x.2.1)) ∧ (∃ v, seqT w = some [.d (.int x.1), .d (.int x.2.1), v] ∧ ixU O w (.d (.int 2)) T = some v ∧ seqL O T v = some ((esD x).map .d) ∧ (v = .d (.list (esD x)) ∨ ∃ j, v = .ref j ∧ getC O T j = some (.lst (esD x)))) ∧ ∀ f : Int, seqT (mkT [.d (.int f), w]) = some [.d (.int f), w] := by
  rcases h with rfl | ⟨j, rfl, hj⟩
  · exact ⟨rfl, rfl, ⟨.d (.list (esD x)), rfl, rfl, rfl, .inl rfl⟩, fun f => rfl⟩
  · exact ⟨rfl, rfl, ⟨.ref j, rfl, rfl, by simp [hj], .inr ⟨j, rfl, hj⟩⟩, fun f => rfl⟩
theorem ChRep.len {O T : Cs} {ch : Ch} {u : U} (h : ChRep O T u ch) : lenB O T u = .ok (.d (.int ch.length)) T := by
  rcases h with rfl | ⟨k, rows, rfl, hk, hl, hr⟩
  · rw [lenB_L]
    simp [chD]
  · rw [lenB_refU hk, hl]
theorem ChRep.toD {O T : Cs} {ch : Ch} {u : U} (h : ChRep O T u ch) : Y.toD O T 3 u = some (.list (chD ch)) := by
  rcases h with rfl | ⟨k, rows, rfl, hk, hl, hr⟩
  · rfl
  · rw [toD_refS, hk]
    have : toDs O T 2 rows = some (chD ch) := by
      clear hk
      induction ch generalizing rows with
      | nil =>
        have : rows = [] := List.eq_nil_of_length_eq_zero hl
        subst this
        rfl
      | cons x ch ih =>
        cases rows with
        | nil => simp at hl
        | cons r rows =>
          obtain ⟨j, h1, h2⟩ := hr 0 x rfl
          simp only [List.getElem?_cons_zero, Option.some.injEq] at h1
          subst h1
          have hh := ih rows (by simpa using hl) (fun f y hy => hr (f + 1) y (by simpa using hy))
          have e : Y.toD O T 2 (.tup [.d (.int x.1), .d (.int x.2.1), .ref j]) = some (fnD x) := by
            rw [toD_tup, toDs_cons, toDs_cons, toDs_cons, toDs_nil, toD_refS, h2]
            rfl
          rw [toDs_cons, e, hh]
          rfl
    show (toDs O T 2 rows).map PyData.list = _
    rw [this]
    rfl
/-- what is seen of a chart -/
structure ChU (O T : Cs) (u : U) (ch : Ch) : Prop where
  len : lenB O T u = .ok (.d (.int ch.length)) T
  at_ : ∀ (f : Int) (x : Int × Int × List Ed), 0 ≤ f → ch[f.toNat]? = some x → ∃ w es, ixU O u (.d (.int f)) T = some w ∧ ixU O w (.d (.int 0)) T = some (.d (.int x.1)) ∧ ixU O w (.d (.int 1)) T = some (.d (.int x.2.1)) ∧ ixU O w (.d (.int 2)) T = some es ∧ lenB O T es = .ok (.d (.int x.2.2.length)) T ∧ ∀ (n : Int) (e : Ed), 0 ≤ n → x.2.2[n.toNat]? = some e → ixU O es (.d (.int n)) T = some (.d (.tuple (Ed.ds e)))
theorem ChRep.u {O T : Cs} {u : U} {ch : Ch} (h : ChRep O T u ch) : ChU O T u ch := by
  refine ⟨h.len, fun f x f0 hx => ?_⟩
  have hlt := (List.getElem?_eq_some_iff.mp hx).1
  rcases h with rfl | ⟨k, rows, rfl, hk, hl, hr⟩
  · refine ⟨.d (fnD x), .d (.list (esD x)), ?_, rfl, rfl, rfl, ?_, fun n e n0 he => ?_⟩
    · rw [ixU_L, fn_at f0 hx]
      rfl
    · rw [lenB_L]
      simp [esD]
    · rw [ixU_L]
      unfold esD
      rw [es_at n0 he]
      rfl
  · obtain ⟨j, h1, h2⟩ := hr _ x hx
    refine ⟨.tup [.d (.int x.1), .d (.int x.2.1), .ref j], .ref j, ?_, rfl, rfl, rfl, ?_, fun n e n0 he => ?_⟩
    · refine ixU_atU hk ?_
      rw [atI_nat _ _ f0 (by omega)]
      exact h1
    · rw [lenB_ref h2]
      simp [esD]
    · refine ixU_at h2 ?_
      unfold esD
      exact es_at n0 he
theorem tree_u (O T : Cs) (L : D) (ch : Ch) (hL : L = .list (chD ch)) : ChU O T (.d L) ch := ChRep.u (.inl (by rw [hL]))
theorem bit_at {t : List Nat} {d e : Int} (h : Bit t d e) : ∃ r : Int, L2.atI (nD t) d = some (.int r) ∧ Builtin.bitAnd (r / 2 ^ e.toNat) 1 = 1 := by
  obtain ⟨h0, h1, h2, r, hr, ht⟩ := h
  refine ⟨(r : Int), ?_, (bit_iff r e.toNat).mpr ht⟩
  have hi := (List.getElem?_eq_some_iff.mp hr).1
  rw [atI_nat _ _ h0 (by simp [nD, nI]; omega)]
  simp [nD, nI, hr]
end Y

set_option Elab.async false
set_option linter.all false
set_option maxRecDepth 100000
set_option maxHeartbeats 4000000
namespace Y
open PySem
theorem compC_inv {f : U → Cs → R (Option U)} {ok : Cs → Bool} {n : Nat} : ∀ (us : List U) (I : Nat → Cs → Prop), (∀ i T, I i T → ok T = true) → (∀ i u, us[i]? = some u → ∀ T, I i T → ∃ oy T' T'', f u T = .ok oy T' ∧ putC n oy T' = .ok () T'' ∧ I (i + 1) T'') → ∀ T, I 0 T → ∃ T', compC f ok n us T = .ok () T' ∧ I us.length T'
  | [], I, ho, _, T, h0 => ⟨T, by rw [compC, if_pos (ho 0 T h0)], h0⟩
  | u :: us, I, ho, h, T, h0 => by
    obtain ⟨oy, T', T'', h2, h3, h4⟩ := h 0 u rfl T h0
    obtain ⟨T3, e, hI⟩ := compC_inv us (fun i => I (i + 1)) (fun i T => ho (i + 1) T) (fun i v hv T => h (i + 1) v hv T) T'' h4
    exact ⟨T3, by rw [compC, if_pos (ho 0 T h0), h2, R.bind_ok, h3, R.bind_ok, e], hI⟩
section
variable {C : Cn} {O T T0 : Cs} {ρ : Rho} {elt t : CE} {g : Tg} {it : IT} {own : List Nat} {us : List U} {w : Option Nat} {tt : Cs} {live : Bool}
/-- turns that change cells: what was put so far is acc -/
theorem comp_w (I : Nat → List U → Cs → Prop) (he : denI C O ρ it T = .ok ⟨us, w, tt⟩ T0) (h0 : I 0 [] (T0 ++ [.lstU []]))
    (hs : ∀ i acc T', I i acc T' → T'[T0.length]? = some (.lstU acc) ∧ sameW O tt T' w = true ∧ acc.length ≤ i)
    (h : ∀ i u, us[i]? = some u → ∀ acc T', I i acc T' → ∃ ρ1, asgT O T' g u (wipeR ρ own) = some ρ1 ∧ ∃ b T1, den C O ρ1 t T' = .ok (.d (.bool b)) T1 ∧ (b = false → I (i + 1) acc T1) ∧ (b = true → ∃ y T'', den C O ρ1 elt T1 = .ok y T'' ∧ T''[T0.length]? = some (.lstU acc) ∧ I (i + 1) (acc ++ [y]) (T''.set T0.length (.lstU (acc ++ [y])))))
    (hl : us.length ≤ 1000000) : ∃ acc T', I us.length acc T' ∧ den C O ρ (.comp live elt g it t own) T = compE O live T0 T' := by
  have key := compC_inv (f := fun u T => match asgT O T g u (wipeR ρ own) with
        | some ρ' => (den C O ρ' t T).bind fun b T => brB (asB b) ((den C O ρ' elt T).bind fun y T => .ok (some y) T) (.ok none T)
        | none => .fail) (ok := fun T' => sameW O tt T' w) (n := T0.length) us (fun i T => i ≤ us.length ∧ ∃ acc, I i acc T) (fun i T hI => by
    obtain ⟨_, acc, hI⟩ := hI
    exact (hs i acc T hI).2.1) (fun i u hu T' hI => by
    obtain ⟨_, acc, hI⟩ := hI
    have hi := (List.getElem?_eq_some_iff.mp hu).1
    obtain ⟨h1, h2, h3⟩ := hs i acc T' hI
    obtain ⟨ρ1, e1, b, T1, e2, hf, ht⟩ := h i u hu acc T' hI
    simp only [e1, e2, R.bind_ok, asB_bool]
    cases b with
    | false => exact ⟨none, T1, T1, rfl, rfl, by omega, acc, hf rfl⟩
    | true =>
      obtain ⟨y, T'', e3, h4, h5⟩ := ht rfl
      refine ⟨some y, T'', T''.set T0.length (.lstU (acc ++ [y])), ?_, putC_at h4 (by omega), by omega, acc ++ [y], h5⟩
      rw [brB_t, e3, R.bind_ok]) (T0 ++ [.lstU []]) ⟨by omega, [], h0⟩
  obtain ⟨T', e, _, acc, hI⟩ := key
  refine ⟨acc, T', hI, ?_⟩
  rw [den, he, R.bind_ok]
  exact (congrArg (fun r : R Unit => r.bind fun _ T' => compE O live T0 T') e).trans rfl
theorem compE_f {T' : Cs} {ds : List D} (h : T'[T0.length]? = some (.lstU (ds.map .d))) : ∃ T'', compE O false T0 T' = .ok (.d (.list ds)) T'' ∧ (T'' = T0 ∨ T'' = T'.set T0.length .dead) := by
  unfold compE
  simp only [h, allD_map, Bool.false_eq_true, if_false]
  split
  · exact ⟨_, rfl, .inl rfl⟩
  · exact ⟨_, rfl, .inr rfl⟩
theorem compE_t {T' : Cs} {us : List U} (h : T'[T0.length]? = some (.lstU us)) : compE O true T0 T' = .ok (.ref (O.length + T0.length)) (T'.set T0.length (cellOf us)) := by
  unfold compE
  simp only [h, if_true]
end
theorem Chg.refl {O T : Cs} {r : Nat} (h : StAt O T r) : Chg O r T T := by
  have := Chg.app h []
  simpa using this
theorem Chg.at_len {O T T' : Cs} {r k : Nat} {c : Cell} (hs : StAt O T r) (h : Chg O r (T ++ [c]) T') (hk : k = T.length) : T'[k]? = some c := by
  obtain ⟨s, g, rfl⟩ := h
  subst hk
  obtain ⟨_, _, hlt⟩ := hs.get
  rw [List.getElem?_append_left (by simp), List.getElem?_set_ne (by omega)]
  simp
/-- numbers drawn, so many -/
theorem nexts_ok {C : Cn} {jn : Nat} (hn : NextOk C jn) (O T : Cs) (r : Nat) (m : Int) (hs : StAt O T r) (hm : 0 < m) (ρ : Rho) (a b k : Nat) (ha : ρ[a]? = some (some (.ref r))) (hb : ρ[b]? = some (some (.d (.int m)))) (hka : k ≠ a) (hkb : k ≠ b) (hk : k < ρ.length) (e : CE) (z : Int) (he : den C O ρ e T = .ok (.d (.int z)) T) (z0 : 0 ≤ z) (z1 : z ≤ 1000) :
    ∃ (vs : List Int) (T' : Cs), (vs.length : Int) = z ∧ (∀ v ∈ vs, 0 ≤ v ∧ v < m) ∧ StAt O T' r ∧ Chg O r T T' ∧ den C O ρ (.comp false (.call true jn (.cons (.v a) (.cons (.v b) .nil)) []) (.nm k) (.rng1 e) (.c (.bool true)) [k]) T = .ok (.d (.list (vs.map .int))) T' := by
  obtain ⟨_, _, hlt⟩ := hs.get
  have hro : rngOk 0 z = true := by simp [rngOk]; omega
  have hI : denI C O ρ (.rng1 e) T = .ok ⟨rngU 0 z.toNat 1, none, T⟩ T := rng1_ok he hro rfl
  obtain ⟨acc, T', ⟨vs, h1, rfl, h2, h3, h4, h5⟩, ee⟩ := comp_w (C := C) (O := O) (live := false) (elt := .call true jn (.cons (.v a) (.cons (.v b) .nil)) []) (g := .nm k) (t := .c (.bool true)) (own := [k])
    (fun i acc T' => ∃ vs : List Int, vs.length = i ∧ acc = (vs.map PyData.int).map .d ∧ (∀ v ∈ vs, 0 ≤ v ∧ v < m) ∧ StAt O T' r ∧ Chg O r T T' ∧ T'[T.length]? = some (.lstU acc)) hI
    ⟨[], rfl, rfl, by simp, hs.app _, Chg.app hs _, by simp⟩
    (fun i acc T' ⟨vs, h1, h2, _, _, _, h5⟩ => ⟨h5, rfl, by rw [h2]; simp; omega⟩)
    (fun i u hu acc T' ⟨vs, h1, h2, h3, h4, h5, h6⟩ => by
      obtain ⟨v, T1, b0, b1, s1, c1, e1⟩ := hn.chg O T' r m h4 hm
      have hlo := h4.lo
      have hl' := chg_len h5
      refine ⟨_, asgT_nm .., true, T', den_c .., fun hh => (by cases hh), fun _ => ⟨.d (.int v), T1, ?_, ?_, vs ++ [v], by simp [h1], by simp [h2], ?_, ?_, ?_, ?_⟩⟩
      · have g1 : ((wipeR ρ [k]).set k (some u))[a]? = some (some (.ref r)) := by simp [wipeR, List.getElem?_set_ne hka, ha]
        have g2 : ((wipeR ρ [k]).set k (some u))[b]? = some (some (.d (.int m))) := by simp [wipeR, List.getElem?_set_ne hkb, hb]
        simp [g1, g2, e1]
      · obtain ⟨s, g, rfl⟩ := c1
        have hT : T.length < T'.length := (List.getElem?_eq_some_iff.mp h6).1
        rw [List.getElem?_append_left (by simpa using hT), List.getElem?_set_ne (by omega)]
        exact h6
      · intro x hx
        rw [List.mem_append] at hx
        rcases hx with hx | hx
        · exact h3 x hx
        · simp only [List.mem_singleton] at hx
          subst hx
          exact ⟨b0, b1⟩
      · exact s1.setb (by omega)
      · exact (h5.trans hs c1).setb (Nat.le_refl _)
      · have hT : T.length < T1.length := by have := chg_len c1; have := (List.getElem?_eq_some_iff.mp h6).1; omega
        rw [List.getElem?_set_self hT])
    (by rw [rngU_len]; omega)
  rw [rngU_len] at h1
  obtain ⟨T'', e2, hT⟩ := compE_f (O := O) (T0 := T) h5
  rw [e2] at ee
  rcases hT with rfl | rfl
  · exact ⟨vs, T'', by omega, h2, hs, Chg.refl hs, ee⟩
  · exact ⟨vs, _, by omega, h2, h3.setb (by omega), h4.setb (Nat.le_refl _), ee⟩
end Y

set_option Elab.async false
set_option linter.all false
set_option maxRecDepth 100000
set_option maxHeartbeats 1000000
namespace Y
open PySem PySem.Spec L2
section
variable {P : Program} {w : World} {K : PySem.W.Frag} {mg : Str → Option Value} {base : Heap} {ca : Nat → Addr}
theorem fun_mkD {x qual : Str} {st : Stmt} {f Tt : Addr} {oc : Value} {od an odT : Option Addr} {osl osT : Array (Option Value)} {kV doc pm cdv ct : Value} {dT : Data} {dvs : List V} (l : K.lookup f = some ⟨oc, od, .func (PySem.W.fnOf x qual (defArgs st) (defBody st) (defScope st) (.ref Tt) kV doc pm an cdv ct), osl⟩)
    (c : PySem.W.codeIn K cdv qual = true) (k : PySem.W.keepIn K (.ref f) = true) (dl : K.lookup Tt = some ⟨.type "tuple", odT, dT, osT⟩) (dv : ∃ (its : Array Value) (n : Nat), dT = .seq its n ∧ Vals dvs its.toList) (hd : dvs ≠ []) : FunD K x qual (defArgs st) (defBody st) (defScope st) dvs [] f (PySem.W.fnOf x qual (defArgs st) (defBody st) (defScope st) (.ref Tt) kV doc pm an cdv ct) := by
  obtain ⟨its, n, e, hv⟩ := dv
  subst e
  exact ⟨⟨oc, od, .ref Tt, kV, doc, pm, an, cdv, ct, osl, rfl, l, c, .inr ⟨hd, Tt, _, its.toList, n, rfl, dl, by simp, hv⟩, .inl rfl⟩, k⟩
theorem def_okD {x qual : Str} {st : Stmt} {f : Addr} {fd : FuncData} {N ps : List Str} {sc : Scope} {vm : List Bool} {dvs : List V} {G : Pg} {j np ns n : Nat} {b : CB} (F : FunD K x qual (defArgs st) (defBody st) (defScope st) dvs [] f fd) (hsc : defScope st = sc) (S : FnScope N ps sc) (hG : G.defs j = some ⟨np, ns, b⟩) (hps : ps.length = np) (hns : N.length = ns)
    (hn : decide N.Nodup = true) (hv : visAll N sc vm = true) (ht : tgtAll N sc vm = true)
    (hb : ∀ X : Cx, X.prog = P → X.w = w → X.K = K → X.mg = mg → X.base = base → Cg X N sc vm vm (2 * n + 1) → PSs X (defBody st) (RBl ca (cn G n) b)) : FnOk P w K mg base CX0 (2 * n + 2) f fd ps (spR ca (run G (n + 1)) j np) := by
  subst hsc
  refine F.ok S (fun vs H Q E h => ?_) (fun cdv A outer s H vs Q E hr h => ⟨_, (hb _ rfl rfl rfl rfl rfl (Cg.ofDef hn hv ht hr)).nox, ?_⟩)
  · obtain ⟨φ, G0, O, T, us, hl, s, r, q⟩ := h
    rw [r.length, hl, hps]
  · obtain ⟨φ, G0, O, T, us, hl, s, r, q⟩ := h
    rw [run, hG] at q
    have q : Pc ca rU φ G0 O (if us.length = np then match denB (cn G n) O b (us.map some ++ List.replicate (ns - us.length) none) T with
    | .nx _ T' => .ok (.d .none) T'
    | .rt u T' => .ok u T'
    | .exc c fs _ T' => .exc c fs T'
    | _ => .fail else .fail) Q := q
    rw [if_pos hl] at q
    refine ⟨φ, G0, O, us.map some ++ List.replicate (ns - us.length) none, T, ⟨s, ?_, ?_⟩, ?_⟩
    · show Lo G0 φ (vs.map some ++ List.replicate (N.length - vs.length) none) _
      rw [hns, r.length]
      exact start_lo _ r
    · show (vs.map some ++ List.replicate (N.length - vs.length) none).length = _
      simp [hns, r.length]
    · cases e : denB (cn G n) O b (us.map some ++ List.replicate (ns - us.length) none) T with
      | nx ρ T' =>
        rw [e] at q
        exact fun σ φ' G' H' f t => q .non φ' G' H' f t.s (.d .non)
      | rt u T' =>
        rw [e] at q
        exact fun v φ' G' H' f s r => q v φ' G' H' f s r
      | bk ρ T' => rw [e] at q; exact q.elim
      | ct ρ T' => rw [e] at q; exact q.elim
      | exc => rw [e] at q; exact q.elim
      | fail => rw [e] at q; exact q.elim
/-- keywords in a call, all defaults of a tuple -/
theorem FunD.kb {x qual : Str} {params : Arguments} {body : List Stmt} {scope : Scope} {dvs : List V} {f : Addr} {fd : FuncData} {ps : List Str} (F : FunD K x qual params body scope dvs [] f fd) (n : Nat) (ks : List Str) (g : {α : Type} → List α → List α → List α → List α) (hd : dvs ≠ [])
    (hrel : ∀ {vs ds zs : List V} {us its ws : List Value}, Vals vs us → Vals ds its → Vals zs ws → Vals (g vs ds zs) (g us its ws))
    (h : ∀ (T : Addr) (kV doc pm : Value) (an : Option Addr) (cdv ct : Value) (us its ws : List Value), us.length = n → its.length = dvs.length → ws.length = ks.length →
      ∃ k, bindArgs (PySem.W.fnOf x qual params body scope (.ref T) kV doc pm an cdv ct) ⟨us, ks.zip ws⟩ = seqItems? (.ref T) >>= k ∧ k (some its.toArray) = pure (ps.zip (g us its ws))) : ∃ its : List Value, KBn K fd ps n ks (fun us ws => g us its ws) (fun vs zs => g vs dvs zs) := by
  obtain ⟨oc, od, dV, kV, doc, pm, an, cdv, ct, osl, rfl, lk, hcd, hD, hK⟩ := F.ex
  rcases hD with ⟨e, _⟩ | ⟨_, T, o, its, m, rfl, lT, oT, rT⟩
  · exact absurd e hd
  · refine ⟨its, ⟨fun s us ws X l1 l2 => ?_, fun r1 r2 => hrel r1 rT r2⟩⟩
    obtain ⟨k, e1, e2⟩ := h T kV doc pm an cdv ct us its ws l1 rT.length.symm l2
    refine BindsTo.of_looks fun M => ?_
    rw [e1]
    exact looks_items X lT oT (.of_pure e2)
end
/-- a def that may be called by the name x with keywords ks behind npos values; ds fills the places between -/
structure CalK (P : Program) (w : World) (K : PySem.W.Frag) (mg : Str → Option Value) (base : Heap) (ca : Nat → Addr) (call : Cs → Nat → List U → Cs → R U) (n j np : Nat) (x : Str) (npos : Nat) (ks : List Str) (ds : List Y.D) : Prop where
  ex : ∃ (f : Addr) (fd : FuncData) (ps : List Str) (dvs : List V) (g : List Value → List Value → List Value) (gV : List V → List V → List V), FnOk P w K mg base CX0 n f fd ps (spR ca call j np) ∧ mg x = some (.ref f) ∧ PySem.W.keepIn K (.ref f) = true ∧ KBn K fd ps npos ks g gV ∧ (∀ vs zs, vs.length = npos → zs.length = ks.length → gV vs zs = vs ++ dvs ++ zs) ∧ ∀ G, Rps G dvs ds
  len : ∀ O us T, us.length ≠ np → call O j us T = .fail
def consCA : List Y.D → CA → CA
  | [], k => k
  | d :: ds, k => .cons (.c d) (consCA ds k)
def appCA (ds : List Y.D) (k : CA) : CA → CA
  | .nil => consCA ds k
  | .cons a r => .cons a (appCA ds k r)
termination_by structural as => as
def lenCA : CA → Nat
  | .nil => 0
  | .cons _ r => lenCA r + 1
termination_by structural as => as
theorem denA_consCA (C : Cn) (O : Cs) (ρ : Rho) (k : CA) (T : Cs) : ∀ ds : List Y.D, denA C O ρ (consCA ds k) T = (denA C O ρ k T).bind fun zs T2 => .ok (ds.map .d ++ zs) T2
  | [] => by
    show denA C O ρ k T = _
    cases denA C O ρ k T <;> rfl
  | d :: ds => by
    show denA C O ρ (.cons (.c d) (consCA ds k)) T = _
    have : den C O ρ (.c d) T = .ok (.d d) T := by rw [den]
    rw [denA, this, R.bind_ok, denA_consCA C O ρ k T ds]
    cases denA C O ρ k T <;> rfl
theorem denA_app (C : Cn) (O : Cs) (ρ : Rho) (ds : List Y.D) (k : CA) : ∀ (as : CA) (T : Cs), denA C O ρ (appCA ds k as) T = (denA C O ρ as T).bind fun us T1 => (denA C O ρ k T1).bind fun zs T2 => .ok (us ++ ds.map .d ++ zs) T2
  | .nil, T => by
    have h0 : denA C O ρ .nil T = .ok [] T := by rw [denA]
    rw [h0, R.bind_ok]
    show denA C O ρ (consCA ds k) T = _
    rw [denA_consCA]
    rfl
  | .cons a r, T => by
    show denA C O ρ (.cons a (appCA ds k r)) T = _
    rw [denA, denA]
    cases den C O ρ a T with
    | ok u T1 =>
      simp only [R.bind_ok]
      rw [denA_app C O ρ ds k r T1]
      cases denA C O ρ r T1 with
      | ok us T2 =>
        rw [R.bind_ok, R.bind_ok, R.bind_ok]
        cases denA C O ρ k T2 <;> rfl
      | exc => rfl
      | fail => rfl
    | exc => rfl
    | fail => rfl
section
variable {ca : Nat → Addr} {X : Cx} {C : Cn} {p pos : Pos} {e : Expr} {es : List Expr} {as ka cc : CA} {N : List Str} {sc : Scope} {vm tm : List Bool} {n j np npos : Nat} {x : Str}
theorem k_nil : PK X [] (RA ca C .nil) := ⟨fun kpos pins s σ H Q I q => pk_nil.run kpos pins s σ H Q I (by
  obtain ⟨φ, G, O, ρ, T, t, h⟩ := q
  rw [denA] at h
  exact Pc.now h t.s .nil)⟩
theorem k_cons {nm : Option Str} {a : Expr} {ea : CE} {kpos : Pos} {kws : List Keyword} (ha : PE X a (RE ca C ea)) (hr : PK X kws (RA ca C ka)) : PK X (⟨nm, a, kpos⟩ :: kws) (RA ca C (.cons ea ka)) := ⟨fun kp pins s σ H Q I q => (pk_cons ha hr).run kp pins s σ H Q I (by
  obtain ⟨φ, G, O, ρ, T, t, h⟩ := q
  rw [denA] at h
  refine ⟨φ, G, O, ρ, T, t, Pc.imp h.bind ?_⟩
  rintro x H1 ⟨φ1, G1, T1, u, f1, s1, r1, h1⟩
  refine ⟨φ1, G1, O, ρ, T1, ⟨s1, f1.lo t.l, t.n⟩, Pc.imp h1.bind ?_⟩
  rintro y H2 ⟨φ2, G2, T2, w, f2, s2, r2, h2⟩
  exact Pc.now h2 s2 (.cons (f2.u r1) r2))⟩
/-- a call that leaves what is not right out -/
theorem callAny_ok {φ : List Addr} {G H : Hp} {O T : Cs} {vs : List V} {us : List U} {l : Bool} {Q : VK} {E : XK} (hlen : ∀ O us T, us.length ≠ np → C.call O j us T = .fail) (h : Pc ca rU φ G O (if l = true then C.call O j us T else callP C O j us T) Q) (s : Sd ca φ G H (O ++ T)) (r : RpUs G φ vs us) : spR ca C.call j np vs H Q E := by
  by_cases hn : us.length = np
  · cases l with
    | true => rw [if_pos rfl] at h; exact callL_ok hn h Fut.refl s r
    | false => rw [if_neg Bool.false_ne_true] at h; exact callP_ok hn h Fut.refl s r
  · cases l with
    | true => rw [if_pos rfl, hlen _ _ _ hn] at h; exact h.elim
    | false =>
      rw [if_neg Bool.false_ne_true] at h
      unfold callP at h
      rw [hlen _ _ _ hn] at h
      exact h.elim
theorem denA_len : ∀ (as : CA) (O T T' : Cs) (ρ : Rho) (us : List U), denA C O ρ as T = .ok us T' → us.length = lenCA as
  | .nil, O, T, T', ρ, us, h => by
    rw [denA] at h
    cases h
    rfl
  | .cons a r, O, T, T', ρ, us, h => by
    rw [denA] at h
    cases e : den C O ρ a T with
    | ok u T1 =>
      rw [e, R.bind_ok] at h
      cases e2 : denA C O ρ r T1 with
      | ok ws T2 =>
        rw [e2, R.bind_ok] at h
        cases h
        simp [lenCA, denA_len r _ _ _ _ ws e2]
      | exc => rw [e2] at h; cases h
      | fail => rw [e2] at h; cases h
    | exc => rw [e] at h; cases h
    | fail => rw [e] at h; cases h
theorem y_callK (g : Cg X N sc vm tm n) {l : Bool} {kws : List Keyword} {ks : List Str} {ds : List Y.D} (F : CalK X.prog X.w X.K X.mg X.base ca C.call n j np x npos ks ds) (ha : PA X (e :: es) (RA ca C as)) (hk : PK X kws (RA ca C ka)) (hc : appCA ds ka as = cc) (h1 : lenCA as = npos := by rfl) (h2 : lenCA ka = ks.length := by rfl) (hg : sc.names.lookup x = some .globalImplicit := by rfl) (hdb : (x == ("__debug__" : Str)) = false := by decide)
    (hall : (backToKw pos (keywordEach kws X.env)).all (·.1.isSome) = true := by rfl) (hks : (backToKw pos (keywordEach kws X.env)).filterMap (·.1) = ks := by rfl) (he : starEach (e :: es) X.env = (false, eval e X.env) :: starEach es X.env := by rfl)
    (hpl : ((backTo pos (starEach (e :: es) X.env)).any (·.1) || (backToKw pos (keywordEach kws X.env)).any (·.1.isNone)) = false := by rfl) : PE X (.Call (.Name x p) (e :: es) kws pos) (RE ca C (.call l j cc [])) := by
  obtain ⟨f, fd, ps, dvs, gg, gV, q1, q2, q3, q4, q5, q6⟩ := F.ex
  refine (pe_callN q1 g.room (gl_of g hg) q2 q3 q4 (E := E0) pass0 ha hk hall hks hdb he hpl).imp ?_
  rintro σ H Q ⟨φ, G, O, ρ, T, t, h⟩
  subst hc
  have e0 : den C O ρ (.call l j (appCA ds ka as) []) T = (denA C O ρ as T).bind fun us T1 => (denA C O ρ ka T1).bind fun zs T2 => if l = true then C.call O j (us ++ ds.map .d ++ zs) T2 else callP C O j (us ++ ds.map .d ++ zs) T2 := by
    rw [den, denA_app]
    cases denA C O ρ as T with
    | ok us T1 =>
      simp only [R.bind_ok]
      cases denA C O ρ ka T1 with
      | ok zs T2 => simp only [R.bind_ok, List.map_nil, List.append_nil]
      | exc => rfl
      | fail => rfl
    | exc => rfl
    | fail => rfl
  rw [e0] at h
  cases ea : denA C O ρ as T with
  | ok us0 T0 =>
    have l1 := denA_len as _ _ _ _ _ ea
    cases ek : denA C O ρ ka T0 with
    | ok zs0 T00 =>
      have l2 := denA_len ka _ _ _ _ _ ek
      refine ⟨φ, G, O, ρ, T, t, ?_⟩
      rw [ea]
      intro vs φ1 G1 H1 f1 s1 r1
      refine ⟨φ1, G1, O, ρ, T0, ⟨s1, f1.lo t.l, t.n⟩, ?_⟩
      rw [ek]
      intro zs φ2 G2 H2 f2 s2 r2
      rw [ea, R.bind_ok, ek, R.bind_ok] at h
      have lv := (RpUs.length r1).trans (l1.trans h1)
      have lz := (RpUs.length r2).trans (l2.trans h2)
      refine ⟨lv, lz, ?_⟩
      rw [q5 vs zs lv lz]
      have r3 : RpUs G2 φ2 (vs ++ dvs ++ zs) (us0 ++ ds.map U.d ++ zs0) := RpUs.append (RpUs.append (f2.us r1) (dv_ok q6)) r2
      exact callAny_ok F.len (h.later (f1.trans f2)) s2 r3
    | exc => rw [ea, R.bind_ok, ek] at h; exact h.elim
    | fail => rw [ea, R.bind_ok, ek] at h; exact h.elim
  | exc => rw [ea] at h; exact h.elim
  | fail => rw [ea] at h; exact h.elim
end
def eltI (C : Cn) (O : Cs) (ρ : Rho) : U → Cs → R (Option U) := fun u T => match asgT O T (.nm 0) u (wipeR ρ []) with
        | some ρ' => (den C O ρ' (.c (.bool true)) T).bind fun b T => brB (asB b) ((den C O ρ' (.v 0) T).bind fun y T => .ok (some y) T) (.ok none T)
        | none => .fail
theorem eltI_ok (C : Cn) (O : Cs) {ρ : Rho} (h : 0 < ρ.length) (u : U) (T : Cs) : eltI C O ρ u T = .ok (some u) T := by
  unfold eltI
  cases ρ with
  | nil => simp at h
  | cons a r => simp [wipeR]
theorem eltI_no (C : Cn) (O : Cs) (u : U) (T : Cs) : eltI C O [] u T = .fail := by
  unfold eltI
  simp [wipeR]
theorem compC_id (C : Cn) (O T : Cs) {ρ : Rho} (h : 0 < ρ.length) : ∀ (us acc : List U), acc.length ≤ 1000001 → compC (eltI C O ρ) (fun T' => sameW O T T' none) T.length us (T ++ [.lstU acc]) = if acc.length + us.length ≤ 1000001 then .ok () (T ++ [.lstU (acc ++ us)]) else .fail
  | [], acc, ha => by
    rw [compC, if_pos (show sameW O T (T ++ [Cell.lstU acc]) none = true from rfl), if_pos (by simpa using ha)]
    simp
  | u :: us, acc, ha => by
    rw [compC, if_pos (show sameW O T (T ++ [Cell.lstU acc]) none = true from rfl), eltI_ok C O h, R.bind_ok]
    unfold putC
    have e5 : (T ++ [Cell.lstU acc])[T.length]? = some (.lstU acc) := by simp
    simp only [e5]
    by_cases q : acc.length ≤ 1000000
    · rw [if_pos (by simpa [sizeOk] using q), R.bind_ok]
      have e6 : (T ++ [Cell.lstU acc]).set T.length (.lstU (acc ++ [u])) = T ++ [.lstU (acc ++ [u])] := by
        rw [List.set_append_right (h := Nat.le_refl _)]
        simp
      rw [e6, compC_id C O T h us (acc ++ [u]) (by simp; omega)]
      have e7 : (acc ++ [u]).length + us.length = acc.length + (u :: us).length := by simp; omega
      rw [e7]
      simp
    · rw [if_neg (by simpa [sizeOk] using q), if_neg (by simp; omega)]
      rfl
theorem rngU_map (i : Int) (n : Nat) : rngU i n 1 = ((List.range n).map fun k : Nat => PyData.int (i + (k : Int))).map U.d := by
  unfold rngU
  rw [List.map_map]
  refine List.map_congr_left fun k _ => ?_
  show U.d (.int (i + (k : Int) * 1)) = U.d (.int (i + (k : Int)))
  rw [Int.mul_one]
/-- what the written part gives -/
theorem rngC_ok (C : Cn) (O T : Cs) (ρ : Rho) (l : Bool) (us : List U) (ds : List Y.D) (hd : us = ds.map .d) {r : R U} (hr : r = ((compC (eltI C O ρ) (fun T' => sameW O T T' none) T.length us (T ++ [.lstU []])).bind fun _ T' => compE O l T T')) : (us.length ≤ 1000001 ∧ r = mkL O l us T) ∨ r = .fail := by
  subst hr
  have fin : (compE O l T (T ++ [.lstU us])) = mkL O l us T := by
    unfold compE
    have e5 : (T ++ [Cell.lstU us])[T.length]? = some (.lstU us) := by simp
    have e6 : allD us = some ds := by rw [hd, allD_map]
    rw [e5]
    simp only [e6]
    cases l with
    | true =>
      simp
    | false =>
      simp [beqCs_r, e6]
  cases us with
  | nil =>
    left
    refine ⟨by simp, ?_⟩
    rw [compC, if_pos (show sameW O T (T ++ [Cell.lstU []]) none = true from rfl), R.bind_ok]
    exact fin
  | cons u us =>
    by_cases h : 0 < ρ.length
    · rw [compC_id C O T h (u :: us) [] (by simp)]
      by_cases q : (u :: us).length ≤ 1000001
      · left
        refine ⟨q, ?_⟩
        rw [if_pos (by simpa using q), R.bind_ok]
        exact fin
      · right
        rw [if_neg (by simpa using q)]
        rfl
    · right
      have : ρ = [] := List.eq_nil_of_length_eq_zero (by omega)
      subst this
      rw [compC, if_pos (show sameW O T (T ++ [Cell.lstU []]) none = true from rfl), eltI_no]
      rfl
section
variable {ca : Nat → Addr} {X : Cx} {C : Cn} {p p2 pos pos2 : Pos} {a b : Expr} {ea eb : CE} {N : List Str} {sc : Scope} {vm tm : List Bool} {n : Nat}
theorem y_lrng (g : Cg X N sc vm tm n) {l : Bool} (hL : X.mg "list" = none) (hR : X.mg "range" = none) (ha : PE X a (RE ca C ea)) (hb : PE X b (RE ca C eb)) (gl : sc.names.lookup ("list" : Str) = some .globalImplicit := by rfl) (gr : sc.names.lookup ("range" : Str) = some .globalImplicit := by rfl)
    (na : starEach [a, b] X.env = (false, eval a X.env) :: starEach [b] X.env := by rfl) (nb : starEach [b] X.env = (false, eval b X.env) :: starEach [] X.env := by rfl) (hp : (backTo pos2 (starEach [b] X.env)).any (·.1) = false := by rfl)
    (na2 : starEach [.Call (.Name "range" p2) [a, b] [] pos2] X.env = (false, eval (.Call (.Name "range" p2) [a, b] [] pos2) X.env) :: starEach [] X.env := by rfl) :
    PE X (.Call (.Name "list" p) [.Call (.Name "range" p2) [a, b] [] pos2] [] pos) (RE ca C (.comp l (.v 0) (.nm 0) (.rng2 ea eb) (.c (.bool true)) [])) := by
  refine (pe_listRg g.calm (gl_of g gl) hL (prg_2 (gl_of g gr) hR ha hb na nb hp) na2).imp ?_
  rintro σ H Q ⟨φ, G, O, ρ, T, t, h⟩
  have e0 : den C O ρ (.comp l (.v 0) (.nm 0) (.rng2 ea eb) (.c (.bool true)) []) T = (denI C O ρ (.rng2 ea eb) T).bind fun its T0 => (compC (eltI C O ρ) (fun T' => sameW O its.t T' its.w) T0.length its.us (T0 ++ [.lstU []])).bind fun _ T' => compE O l T0 T' := by
    rw [den]
    rfl
  rw [e0, denI_rng2] at h
  refine ⟨φ, G, O, ρ, T, t, ?_⟩
  cases e1 : den C O ρ ea T with
  | exc => rw [e1] at h; exact h.elim
  | fail => rw [e1] at h; exact h.elim
  | ok x T1 =>
    rw [e1, R.bind_ok] at h
    intro v φ1 G1 H1 f1 s1 r1
    refine ⟨φ1, G1, O, ρ, T1, ⟨s1, f1.lo t.l, t.n⟩, ?_⟩
    cases e2 : den C O ρ eb T1 with
    | exc => rw [e2] at h; exact h.elim
    | fail => rw [e2] at h; exact h.elim
    | ok y T2 =>
      rw [e2, R.bind_ok] at h
      intro w φ2 G2 H2 f2 s2 r2
      have h' : ∃ i j, x = .d (.int i) ∧ y = .d (.int j) := by
        revert h
        cases x with
        | d dx =>
          cases dx with
          | int i =>
            cases y with
            | d dy =>
              cases dy with
              | int j => exact fun _ => ⟨i, j, rfl, rfl⟩
              | _ => exact fun h => h.elim
            | _ => exact fun h => h.elim
          | _ => exact fun h => h.elim
        | _ => exact fun h => h.elim
      obtain ⟨i, j, rfl, rfl⟩ := h'
      have hv : v = .int i := by cases r1 with | d r => cases r; rfl
      have hw : w = .int j := by cases r2 with | d r => cases r; rfl
      refine ⟨i, j, hv, hw, ?_⟩
      simp only at h
      by_cases q : rngOk i j = true
      · rw [if_pos q, R.bind_ok] at h
        simp only at h
        have hsz := rngOk_ok q
        rcases rngC_ok C O T2 ρ l (rngU i (j - i).toNat 1) _ (rngU_map i _) rfl with ⟨k1, k2⟩ | k2
        · rw [k2] at h
          rw [rngU_len] at k1
          refine ⟨⟨hsz.1.1, hsz.1.2, hsz.2.1, hsz.2.2, by omega⟩, fun q2 hq2 => ?_⟩
          refine mkL_ok (h.later (f1.trans f2)) s2 ?_ hq2
          rw [rngU_map]
          unfold rgV
          generalize List.range (j - i).toNat = ks
          induction ks with
          | nil => exact .nil
          | cons k ks ih => exact .cons (.d (.int _)) ih
        · rw [k2] at h
          exact h.elim
      · rw [if_neg q] at h
        exact h.elim
end
end Y

set_option Elab.async false
set_option linter.all false
set_option maxRecDepth 100000
set_option maxHeartbeats 4000000
namespace Lk73
open PySem PySem.Spec L2 Y
def b1 : CB := (.cons (.setf 0 (.v 0) "function" (.v 1))
 (.cons (.setf 0 (.v 0) "due" (.c (.int 0)))
 (.cons (.setf 0 (.v 0) "held" (.v 2))
 (.cons (.setf 0 (.v 0) "dyes" (.v 3))
 .nil))))
def d_Frame___init__ : FD := ⟨4, 4, b1⟩
def b2 : CB := (.cons (.seti (.fld 0 (.v 0) "held") (.v 1) (.v 2))
 (.cons (.setf 0 (.v 0) "dyes" (.bin false .bor (.fld 0 (.v 0) "dyes") (.bin false .shl (.c (.int 1)) (.v 1))))
 (.cons (.ite (.not (.v 3)) (.cons (.setf 0 (.v 0) "dyes" (.bin false .bxor (.fld 0 (.v 0) "dyes") (.bin false .shl (.c (.int 1)) (.v 1))))
  .nil) .nil)
 .nil)))
def d_Frame_put : FD := ⟨4, 4, b2⟩
def b3 : CB := (.cons (.ret (.cmp .eq (.bin false .band (.bin false .shr (.fld 0 (.v 0) "dyes") (.v 1)) (.c (.int 1))) (.c (.int 1))))
 .nil)
def d_Frame_is_dyed : FD := ⟨2, 2, b3⟩
def b4 : CB := (.cons (.asg (.nm 4) (.bin false .sub (.bi false .len (.cons (.ix (.ix (.v 0) (.v 1)) (.c (.int 2))) .nil)) (.bi false .len (.cons (.v 2) .nil))))
 (.cons (.ret (.mk 0 1 (.cons (.v 1) (.cons (.bin true .add (.bi true .list (.cons (.v 2) .nil)) (.bin false .mul (.lst false (.cons (.c (.int 0)) .nil)) (.v 4))) (.cons (.v 3) .nil)))))
 .nil))
def d_new_frame : FD := ⟨4, 5, b4⟩
def b5 : CB := (.cons (.asg (.nm 3) (.bin false .mul (.v 1) (.v 2)))
 (.cons (.ite (.cmp .eq (.v 0) (.c (.str "+"))) (.cons (.asg (.nm 3) (.bin false .add (.v 1) (.v 2)))
  .nil) .nil)
 (.cons (.ite (.cmp .eq (.v 0) (.c (.str "-"))) (.cons (.asg (.nm 3) (.bin false .sub (.v 1) (.v 2)))
  .nil) .nil)
 (.cons (.ret (.bin false .mod (.v 3) (.g 0)))
 .nil))))
def d_worked_out : FD := ⟨3, 4, b5⟩
def b6 : CB := (.cons (.asg (.nm 2) (.ix (.v 1) (.c (.int 0))))
 (.cons (.setf 0 (.v 0) "due" (.bin false .add (.fld 0 (.v 0) "due") (.c (.int 1))))
 (.cons (.ite (.cmp .eq (.v 2) (.c (.str "number"))) (.cons (.ex (.mcall 0 2 "put" (.v 0) (.cons (.ix (.v 1) (.c (.int 1))) (.cons (.ix (.v 1) (.c (.int 2))) (.cons (.c (.bool false)) .nil)))))
  .nil) (.cons (.ite (.cmp .eq (.v 2) (.c (.str "copy"))) (.cons (.ex (.mcall 0 2 "put" (.v 0) (.cons (.ix (.v 1) (.c (.int 1))) (.cons (.ix (.fld 0 (.v 0) "held") (.ix (.v 1) (.c (.int 2)))) (.cons (.mcall 0 3 "is_dyed" (.v 0) (.cons (.ix (.v 1) (.c (.int 2))) .nil)) .nil)))))
   .nil) (.cons (.ite (.cmp .eq (.v 2) (.c (.str "does"))) (.cons (.asg (.nm 3) (.ix (.v 1) (.c (.int 3))))
    (.cons (.asg (.nm 4) (.ix (.v 1) (.c (.int 4))))
    (.cons (.asg (.nm 5) (.call false 5 (.cons (.ix (.v 1) (.c (.int 2))) (.cons (.ix (.fld 0 (.v 0) "held") (.v 3)) (.cons (.ix (.fld 0 (.v 0) "held") (.v 4)) .nil))) []))
    (.cons (.ex (.mcall 0 2 "put" (.v 0) (.cons (.ix (.v 1) (.c (.int 1))) (.cons (.v 5) (.cons (.or (.mcall 0 3 "is_dyed" (.v 0) (.cons (.v 3) .nil)) (.mcall 0 3 "is_dyed" (.v 0) (.cons (.v 4) .nil))) .nil)))))
    .nil)))) (.cons (.ite (.or (.cmp .eq (.v 2) (.c (.str "dye"))) (.cmp .eq (.v 2) (.c (.str "wash")))) (.cons (.ex (.mcall 0 2 "put" (.v 0) (.cons (.ix (.v 1) (.c (.int 1))) (.cons (.ix (.fld 0 (.v 0) "held") (.ix (.v 1) (.c (.int 1)))) (.cons (.cmp .eq (.v 2) (.c (.str "dye"))) .nil)))))
     .nil) (.cons (.ite (.cmp .eq (.v 2) (.c (.str "to"))) (.cons (.setf 0 (.v 0) "due" (.ix (.v 1) (.c (.int 1))))
      .nil) (.cons (.ite (.cmp .ne (.ix (.fld 0 (.v 0) "held") (.ix (.v 1) (.c (.int 1)))) (.c (.int 0))) (.cons (.setf 0 (.v 0) "due" (.ix (.v 1) (.c (.int 2))))
       .nil) .nil)
      .nil))
     .nil))
    .nil))
   .nil))
  .nil))
 .nil)))
def d_do_row : FD := ⟨2, 6, b6⟩
def b7 : CB := (.cons (.asg (.nm 3) (.c (.int 0)))
 (.cons (.for_ (.nm 4) (.rng1 (.bi false .len (.cons (.ix (.v 2) (.c (.int 3))) .nil))) (.cons (.asg (.nm 3) (.bin false .bor (.v 3) (.bin false .shl (.bi false .int (.cons (.mcall 0 3 "is_dyed" (.v 1) (.cons (.ix (.ix (.v 2) (.c (.int 3))) (.v 4)) .nil)) .nil)) (.v 4))))
  .nil))
 (.cons (.ret (.call true 4 (.cons (.v 0) (.cons (.ix (.v 2) (.c (.int 2))) (.cons (.comp false (.ix (.fld 0 (.v 1) "held") (.v 5)) (.nm 5) (.tup (.ix (.v 2) (.c (.int 3)))) (.c (.bool true)) [5]) (.cons (.v 3) .nil)))) []))
 .nil)))
def d_called : FD := ⟨3, 6, b7⟩
def b8 : CB := (.cons (.ret (.tup (.cons (.v 0) (.cons (.fld 0 (.v 1) "function") (.cons (.fld 0 (.v 1) "due") (.cons (.bin false .bor (.c (.int 1)) (.bin false .shl (.fld 0 (.v 1) "dyes") (.c (.int 1)))) .nil))))))
 .nil)
def d_state_of : FD := ⟨2, 2, b8⟩
def b9 : CB := (.cons (.asg (.nm 5) (.mt false .pop (.v 1) .nil))
 (.cons (.asg (.tp (.cons (.nm 6) (.cons (.nm 7) (.cons (.nm 8) (.cons (.nm 9) .nil))))) (.ix (.v 0) (.fld 0 (.v 5) "function")))
 (.cons (.asg (.nm 10) (.ix (.fld 0 (.v 5) "held") (.ix (.v 2) (.c (.int 1)))))
 (.cons (.asg (.nm 11) (.mcall 0 3 "is_dyed" (.v 5) (.cons (.ix (.v 2) (.c (.int 1))) .nil)))
 (.cons (.ex (.mt false .append (.v 4) (.cons (.tup (.cons (.v 3) (.cons (.fld 0 (.v 5) "function") (.cons (.bi false .len (.cons (.v 9) .nil)) (.cons (.bin false .bor (.c (.int 1)) (.bin false .shl (.bi false .int (.cons (.v 11) .nil)) (.bin false .add (.bi false .len (.cons (.v 8) .nil)) (.c (.int 1))))) .nil))))) .nil)))
 (.cons (.ite (.cmp .gt (.bi false .len (.cons (.v 1) .nil)) (.c (.int 0))) (.cons (.asg (.nm 12) (.ix (.v 1) (.bin false .sub (.bi false .len (.cons (.v 1) .nil)) (.c (.int 1)))))
  (.cons (.ex (.mcall 0 2 "put" (.v 12) (.cons (.ix (.ix (.ix (.ix (.v 0) (.fld 0 (.v 12) "function")) (.c (.int 3))) (.fld 0 (.v 12) "due")) (.c (.int 1))) (.cons (.v 10) (.cons (.v 11) .nil)))))
  (.cons (.setf 0 (.v 12) "due" (.bin false .add (.fld 0 (.v 12) "due") (.c (.int 1))))
  (.cons (.ex (.mt false .append (.v 4) (.cons (.call false 8 (.cons (.v 3) (.cons (.v 12) .nil)) []) .nil)))
  .nil)))) .nil)
 (.cons (.ret (.v 10))
 .nil)))))))
def d_given_back : FD := ⟨5, 13, b9⟩
def b10 : CB := (.cons (.asg (.nm 4) (.lst true (.cons (.call true 4 (.cons (.v 0) (.cons (.c (.int 0)) (.cons (.v 1) (.cons (.bin false .band (.v 2) (.bin false .sub (.bin false .shl (.c (.int 1)) (.ix (.ix (.v 0) (.c (.int 0))) (.c (.int 1)))) (.c (.int 1)))) .nil)))) []) .nil)))
 (.cons (.asg (.nm 5) (.lst true (.cons (.call false 8 (.cons (.c (.int 0)) (.cons (.ix (.v 4) (.c (.int 0))) .nil)) []) .nil)))
 (.cons (.for_ (.nm 6) (.rng2 (.c (.int 1)) (.bin false .add (.v 3) (.c (.int 1)))) (.cons (.asg (.nm 7) (.ix (.v 4) (.bin false .sub (.bi false .len (.cons (.v 4) .nil)) (.c (.int 1)))))
  (.cons (.asg (.nm 8) (.ix (.ix (.ix (.v 0) (.fld 0 (.v 7) "function")) (.c (.int 3))) (.fld 0 (.v 7) "due")))
  (.cons (.ite (.cmp .eq (.ix (.v 8) (.c (.int 0))) (.c (.str "return"))) (.cons (.asg (.nm 9) (.call true 9 (.cons (.v 0) (.cons (.v 4) (.cons (.v 8) (.cons (.v 6) (.cons (.v 5) .nil))))) []))
   (.cons (.ite (.cmp .eq (.bi false .len (.cons (.v 4) .nil)) (.c (.int 0))) (.cons (.ret (.tup (.cons (.v 5) (.cons (.tup (.cons (.c (.str "done")) (.cons (.v 9) .nil))) .nil))))
    .nil) .nil)
   .nil)) (.cons (.ite (.cmp .eq (.ix (.v 8) (.c (.int 0))) (.c (.str "call"))) (.cons (.asg (.nm 7) (.call true 7 (.cons (.v 0) (.cons (.v 7) (.cons (.v 8) .nil))) []))
    (.cons (.ex (.mt false .append (.v 4) (.cons (.v 7) .nil)))
    .nil)) (.cons (.ex (.call true 6 (.cons (.v 7) (.cons (.v 8) .nil)) []))
    .nil))
   (.cons (.ex (.mt false .append (.v 5) (.cons (.call false 8 (.cons (.v 6) (.cons (.v 7) .nil)) []) .nil)))
   .nil)))
  .nil))))
 (.cons (.ret (.tup (.cons (.v 5) (.cons (.tup (.cons (.c (.str "spent")) .nil)) .nil))))
 .nil))))
def d_run : FD := ⟨4, 10, b10⟩
def b11 : CB := (.cons (.ite (.cmp .lt (.v 1) (.bi false .len (.cons (.v 0) .nil))) (.cons (.ret (.ix (.v 0) (.v 1)))
  .nil) .nil)
 (.cons (.asg (.nm 2) (.bin false .add (.bin false .mul (.c (.int 6007)) (.v 1)) (.c (.int 29))))
 (.cons (.ite (.cmp .gt (.bi false .len (.cons (.v 0) .nil)) (.c (.int 0))) (.cons (.asg (.nm 2) (.bin false .add (.v 2) (.bin false .mul (.c (.int 40961)) (.ix (.v 0) (.bin false .mod (.bin false .mul (.c (.int 7)) (.v 1)) (.bi false .len (.cons (.v 0) .nil)))))))
  .nil) .nil)
 (.cons (.ret (.bin false .mod (.bin false .mul (.v 2) (.v 2)) (.c (.int 1000081))))
 .nil))))
def d__law_cell : FD := ⟨2, 3, b11⟩
def b12 : CB := (.cons (.asg (.nm 2) (.call false 11 (.cons (.v 0) (.cons (.v 1) .nil)) []))
 (.cons (.asg (.nm 3) (.cmp .ge (.bi false .abs (.cons (.v 2) .nil)) (.bin false .pow (.c (.int 10)) (.c (.int 18)))))
 (.cons (.ret (.lst true (.cons (.bin false .mul (.bi false .abs (.cons (.v 2) .nil)) (.bi false .int (.cons (.v 3) .nil))) (.cons (.bin false .mod (.bin false .add (.bin false .add (.bin false .mul (.v 2) (.c (.int 48271))) (.bin false .mul (.c (.int 7919)) (.v 1))) (.c (.int 11))) (.c (.int 2147483629))) (.cons (.v 3) .nil)))))
 .nil)))
def d__law_state : FD := ⟨2, 4, b12⟩
def b13 : CB := (.cons (.asg (.nm 2) (.ix (.v 0) (.c (.int 0))))
 (.cons (.ite (.cmp .gt (.v 2) (.c (.int 0))) (.cons (.seti (.v 0) (.c (.int 0)) (.bin false .fdiv (.v 2) (.v 1)))
  (.cons (.ret (.bin false .mod (.v 2) (.v 1)))
  .nil)) .nil)
 (.cons (.asg (.nm 3) (.bin false .mod (.bin false .add (.bin false .mul (.ix (.v 0) (.c (.int 1))) (.c (.int 69621))) (.c (.int 40503))) (.c (.int 2147483647))))
 (.cons (.seti (.v 0) (.c (.int 1)) (.bin false .mod (.bin false .add (.bin false .mul (.v 3) (.c (.int 48271))) (.c (.int 7919))) (.c (.int 2147483629))))
 (.cons (.ret (.bin false .mod (.bin false .add (.bin false .mul (.v 3) (.c (.int 2147483563))) (.ix (.v 0) (.c (.int 1)))) (.v 1)))
 .nil)))))
def d__law_next : FD := ⟨2, 4, b13⟩
def b14 : CB := (.cons (.asg (.nm 2) (.lst false (.cons (.c (.str "number")) (.cons (.c (.str "copy")) (.cons (.c (.str "does")) (.cons (.c (.str "dye")) (.cons (.c (.str "wash")) (.cons (.c (.str "if")) (.cons (.c (.str "to")) (.cons (.c (.str "call")) (.cons (.c (.str "return")) .nil)))))))))))
 (.cons (.ite (.cmp .eq (.v 1) (.c (.int 0))) (.cons (.ret (.c (.str "to")))
  .nil) .nil)
 (.cons (.ite (.not (.ix (.v 0) (.c (.int 2)))) (.cons (.asg (.nm 2) (.bin false .add (.v 2) (.lst false (.cons (.c (.str "does")) (.cons (.c (.str "does")) (.cons (.c (.str "call")) (.cons (.c (.str "call")) (.cons (.c (.str "if")) (.cons (.c (.str "if")) (.cons (.c (.str "number")) (.cons (.c (.str "copy")) .nil)))))))))))
  .nil) .nil)
 (.cons (.ret (.ix (.v 2) (.call true 13 (.cons (.v 0) (.cons (.bi false .len (.cons (.v 2) .nil)) .nil)) [])))
 .nil))))
def d__law_kind : FD := ⟨2, 3, b14⟩
def b15 : CB := (.cons (.ite (.cmp .eq (.v 1) (.c (.str "to"))) (.cons (.ret (.tup (.cons (.c (.str "to")) (.cons (.call true 13 (.cons (.v 0) (.cons (.v 4) .nil)) []) .nil))))
  .nil) .nil)
 (.cons (.asg (.nm 5) (.call true 13 (.cons (.v 0) (.cons (.v 2) .nil)) []))
 (.cons (.ite (.cmp .eq (.v 1) (.c (.str "number"))) (.cons (.ret (.tup (.cons (.c (.str "number")) (.cons (.v 5) (.cons (.call true 13 (.cons (.v 0) (.cons (.ix (.lst false (.cons (.c (.int 4)) (.cons (.bin false .pow (.c (.int 10)) (.c (.int 18))) .nil))) (.call true 13 (.cons (.v 0) (.cons (.c (.int 2)) .nil)) [])) .nil)) []) .nil)))))
  .nil) .nil)
 (.cons (.ite (.cmp .eq (.v 1) (.c (.str "copy"))) (.cons (.ret (.tup (.cons (.c (.str "copy")) (.cons (.v 5) (.cons (.call true 13 (.cons (.v 0) (.cons (.v 2) .nil)) []) .nil)))))
  .nil) .nil)
 (.cons (.ite (.cmp .eq (.v 1) (.c (.str "does"))) (.cons (.ret (.tup (.cons (.c (.str "does")) (.cons (.v 5) (.cons (.ix (.c (.str "+-*")) (.call true 13 (.cons (.v 0) (.cons (.c (.int 3)) .nil)) [])) (.cons (.call true 13 (.cons (.v 0) (.cons (.v 2) .nil)) []) (.cons (.call true 13 (.cons (.v 0) (.cons (.v 2) .nil)) []) .nil)))))))
  .nil) .nil)
 (.cons (.ite (.cmp .eq (.v 1) (.c (.str "if"))) (.cons (.ret (.tup (.cons (.c (.str "if")) (.cons (.v 5) (.cons (.call true 13 (.cons (.v 0) (.cons (.v 4) .nil)) []) .nil)))))
  .nil) .nil)
 (.cons (.ite (.cmp .eq (.v 1) (.c (.str "call"))) (.cons (.asg (.nm 6) (.call true 13 (.cons (.v 0) (.cons (.bi false .len (.cons (.v 3) .nil)) .nil)) []))
  (.cons (.ret (.tup (.cons (.c (.str "call")) (.cons (.v 5) (.cons (.v 6) (.cons (.bi false .tuple (.cons (.comp false (.call true 13 (.cons (.v 0) (.cons (.v 2) .nil)) []) (.nm 7) (.rng1 (.ix (.ix (.v 3) (.v 6)) (.c (.int 0)))) (.c (.bool true)) [7]) .nil)) .nil))))))
  .nil)) .nil)
 (.cons (.ret (.tup (.cons (.v 1) (.cons (.v 5) .nil))))
 .nil))))))))
def d__law_row : FD := ⟨5, 8, b15⟩
def b16 : CB := (.cons (.asg (.nm 3) (.call true 12 (.cons (.v 0) (.cons (.c (.int 1)) .nil)) []))
 (.cons (.asg (.nm 4) (.lst true .nil))
 (.cons (.for_ (.nm 5) (.rng1 (.bin false .add (.c (.int 1)) (.call true 13 (.cons (.v 3) (.cons (.v 1) .nil)) []))) (.cons (.asg (.nm 6) (.call true 13 (.cons (.v 3) (.cons (.bin false .add (.v 2) (.c (.int 1))) .nil)) []))
  (.cons (.ite (.and (.not (.ix (.v 3) (.c (.int 2)))) (.cmp .gt (.call true 13 (.cons (.v 3) (.cons (.c (.int 8)) .nil)) []) (.c (.int 0)))) (.cons (.asg (.nm 6) (.bi false .max2 (.cons (.v 6) (.cons (.c (.int 1)) .nil))))
   .nil) .nil)
  (.cons (.ex (.mt false .append (.v 4) (.cons (.tup (.cons (.call true 13 (.cons (.v 3) (.cons (.bin false .add (.v 6) (.c (.int 1))) .nil)) []) (.cons (.v 6) .nil))) .nil)))
  .nil))))
 (.cons (.ret (.v 4))
 .nil))))
def d__law_heads : FD := ⟨3, 7, b16⟩
def b17 : CB := (.cons (.asg (.nm 3) (.lst true .nil))
 (.cons (.asg (.nm 4) (.bi false .len (.cons (.v 1) .nil)))
 (.cons (.for_ (.nm 5) (.lst (.v 2)) (.cons (.asg (.nm 6) (.call true 12 (.cons (.v 0) (.cons (.v 5) .nil)) []))
  (.cons (.asg (.nm 7) (.call true 13 (.cons (.v 6) (.cons (.bi false .len (.cons (.v 1) .nil)) .nil)) []))
  (.cons (.asg (.nm 8) (.call true 14 (.cons (.v 6) (.cons (.ix (.ix (.v 1) (.v 7)) (.c (.int 1))) .nil)) []))
  (.cons (.asg (.nm 4) (.bin false .add (.bin false .add (.v 4) (.c (.int 1))) (.bi false .int (.cons (.cmp .eq (.v 8) (.c (.str "if"))) .nil))))
  (.cons (.ite (.and (.cmp .le (.v 4) (.c (.int 24))) (.cmp .lt (.bi false .len (.cons (.comp true (.v 9) (.nm 9) (.lst (.v 3)) (.cmp .eq (.ix (.v 9) (.c (.int 0))) (.v 7)) [9]) .nil)) (.c (.int 8)))) (.cons (.ex (.mt false .append (.v 3) (.cons (.tup (.cons (.v 7) (.cons (.v 8) (.cons (.v 6) .nil)))) .nil)))
   .nil) (.cons (.asg (.nm 4) (.bin false .sub (.bin false .sub (.v 4) (.c (.int 1))) (.bi false .int (.cons (.cmp .eq (.v 8) (.c (.str "if"))) .nil))))
   .nil))
  .nil))))))
 (.cons (.ret (.v 3))
 .nil))))
def d__law_places : FD := ⟨3, 10, b17⟩
def b18 : CB := (.cons (.asg (.nm 4) (.call true 16 (.cons (.v 0) (.cons (.v 1) (.cons (.v 2) .nil))) []))
 (.cons (.asg (.nm 5) (.call true 17 (.cons (.v 0) (.cons (.v 4) (.cons (.v 3) .nil))) []))
 (.cons (.asg (.nm 6) (.call true 12 (.cons (.v 0) (.cons (.c (.int 2)) .nil)) []))
 (.cons (.asg (.nm 7) (.lst true .nil))
 (.cons (.for_ (.nm 8) (.rng1 (.bi false .len (.cons (.v 4) .nil))) (.cons (.asg (.tp (.cons (.nm 9) (.cons (.nm 10) .nil))) (.ix (.v 4) (.v 8)))
  (.cons (.asg (.nm 11) (.comp true (.v 15) (.nm 15) (.lst (.v 5)) (.cmp .eq (.ix (.v 15) (.c (.int 0))) (.v 8)) [15]))
  (.cons (.asg (.nm 12) (.comp false (.call true 15 (.cons (.ix (.v 15) (.c (.int 2))) (.cons (.ix (.v 15) (.c (.int 1))) (.cons (.v 10) (.cons (.v 4) (.cons (.bin false .add (.bi false .len (.cons (.v 11) .nil)) (.c (.int 1))) .nil))))) []) (.nm 15) (.lst (.v 11)) (.c (.bool true)) [15]))
  (.cons (.asg (.nm 13) (.tup (.cons (.c (.str "to")) (.cons (.call true 13 (.cons (.v 6) (.cons (.bin false .add (.bi false .len (.cons (.v 11) .nil)) (.c (.int 1))) .nil)) []) .nil))))
  (.cons (.ite (.and (.cmp .gt (.v 10) (.c (.int 0))) (.cmp .gt (.call true 13 (.cons (.v 6) (.cons (.c (.int 4)) .nil)) []) (.c (.int 0)))) (.cons (.asg (.nm 13) (.tup (.cons (.c (.str "return")) (.cons (.call true 13 (.cons (.v 6) (.cons (.v 10) .nil)) []) .nil))))
   .nil) .nil)
  (.cons (.asg (.nm 14) (.bi false .tuple (.cons (.comp false (.bin false .mul (.ix (.c (.str "abcd")) (.v 16)) (.bin false .add (.c (.int 1)) (.v 8))) (.nm 16) (.rng1 (.v 10)) (.c (.bool true)) [16]) .nil)))
  (.cons (.ex (.mt false .append (.v 7) (.cons (.tup (.cons (.bin false .add (.c (.str "f")) (.bin false .mul (.c (.str "g")) (.v 8))) (.cons (.v 9) (.cons (.v 14) (.cons (.bi false .tuple (.cons (.bin false .add (.v 12) (.lst false (.cons (.v 13) .nil))) .nil)) .nil))))) .nil)))
  .nil))))))))
 (.cons (.ret (.v 7))
 .nil))))))
def d__law_program : FD := ⟨4, 17, b18⟩
def b19 : CB := (.cons (.asg (.nm 2) (.call true 12 (.cons (.v 0) (.cons (.c (.int 0)) .nil)) []))
 (.cons (.asg (.nm 3) (.lst true .nil))
 (.cons (.for_ (.nm 4) (.rng1 (.v 1)) (.cons (.ex (.mt false .append (.v 3) (.cons (.call true 13 (.cons (.v 2) (.cons (.ix (.lst false (.cons (.c (.int 4)) (.cons (.bin false .pow (.c (.int 10)) (.c (.int 18))) .nil))) (.call true 13 (.cons (.v 2) (.cons (.c (.int 2)) .nil)) [])) .nil)) []) .nil)))
  .nil))
 (.cons (.ret (.tup (.cons (.frz (.v 3)) (.cons (.v 2) .nil))))
 .nil))))
def d__law_values : FD := ⟨2, 5, b19⟩
def b20 : CB := (.cons (.asg (.tp (.cons (.nm 2) (.cons (.nm 3) .nil))) (.v 0))
 (.cons (.ite (.and (.cmp .eq (.ix (.v 3) (.c (.int 0))) (.c (.str "done"))) (.cmp .le (.ix (.ix (.v 2) (.neg (.c (.int 1)))) (.c (.int 0))) (.v 1))) (.cons (.ret (.v 0))
  .nil) .nil)
 (.cons (.ret (.tup (.cons (.comp false (.v 4) (.nm 4) (.lst (.v 2)) (.cmp .le (.ix (.v 4) (.c (.int 0))) (.v 1)) [4]) (.cons (.tup (.cons (.c (.str "spent")) .nil)) .nil))))
 .nil)))
def d__law_cut : FD := ⟨2, 5, b20⟩
def b21 : CB := (.cons (.asg (.nm 1) (.call true 18 (.cons (.v 0) (.cons (.c (.int 6)) (.cons (.c (.int 4)) (.cons (.comp false (.v 0) (.nm 0) (.rng2 (.c (.int 3)) (.bi false .min2 (.cons (.bi false .len (.cons (.v 0) .nil)) (.cons (.c (.int 63)) .nil)))) (.c (.bool true)) []) .nil)))) []))
 (.cons (.asg (.tp (.cons (.nm 2) (.cons (.nm 3) .nil))) (.call true 19 (.cons (.v 0) (.cons (.ix (.ix (.v 1) (.c (.int 0))) (.c (.int 1))) .nil)) []))
 (.cons (.asg (.nm 4) (.call true 13 (.cons (.v 3) (.cons (.c (.int 16)) .nil)) []))
 (.cons (.asg (.nm 5) (.call true 13 (.cons (.v 3) (.cons (.c (.int 16)) .nil)) []))
 (.cons (.asg (.nm 6) (.call true 13 (.cons (.v 3) (.cons (.ix (.lst false (.cons (.c (.int 40)) (.cons (.c (.int 401)) .nil))) (.bi false .int (.cons (.cmp .eq (.call true 13 (.cons (.v 3) (.cons (.c (.int 8)) .nil)) []) (.c (.int 1))) .nil))) .nil)) []))
 (.cons (.asg (.nm 7) (.call true 13 (.cons (.v 3) (.cons (.bin false .add (.v 6) (.c (.int 1))) .nil)) []))
 (.cons (.asg (.nm 8) (.call true 10 (.cons (.v 1) (.cons (.v 2) (.cons (.v 4) (.cons (.v 6) .nil)))) []))
 (.cons (.asg (.nm 9) (.call true 10 (.cons (.v 1) (.cons (.v 2) (.cons (.v 5) (.cons (.v 6) .nil)))) []))
 (.cons (.asg (.nm 10) (.call true 10 (.cons (.v 1) (.cons (.v 2) (.cons (.bin false .bor (.v 4) (.v 5)) (.cons (.v 6) .nil)))) []))
 (.cons (.asg (.nm 11) (.call true 10 (.cons (.v 1) (.cons (.v 2) (.cons (.c (.int 0)) (.cons (.v 6) .nil)))) []))
 (.cons (.ite (.or (.cmp .ne (.ix (.v 8) (.c (.int 1))) (.ix (.v 10) (.c (.int 1)))) (.or (.cmp .ne (.ix (.v 9) (.c (.int 1))) (.ix (.v 10) (.c (.int 1)))) (.cmp .ne (.ix (.v 11) (.c (.int 1))) (.ix (.v 10) (.c (.int 1)))))) (.cons (.ret (.c (.bool false)))
  .nil) .nil)
 (.cons (.ite (.or (.cmp .ne (.bi false .len (.cons (.ix (.v 8) (.c (.int 0))) .nil)) (.bi false .len (.cons (.ix (.v 10) (.c (.int 0))) .nil))) (.or (.cmp .ne (.bi false .len (.cons (.ix (.v 9) (.c (.int 0))) .nil)) (.bi false .len (.cons (.ix (.v 10) (.c (.int 0))) .nil))) (.cmp .ne (.bi false .len (.cons (.ix (.v 11) (.c (.int 0))) .nil)) (.bi false .len (.cons (.ix (.v 10) (.c (.int 0))) .nil))))) (.cons (.ret (.c (.bool false)))
  .nil) .nil)
 (.cons (.for_ (.nm 12) (.rng1 (.bi false .len (.cons (.ix (.v 10) (.c (.int 0))) .nil))) (.cons (.for_ (.nm 13) (.lst (.lst false (.cons (.ix (.ix (.v 8) (.c (.int 0))) (.v 12)) (.cons (.ix (.ix (.v 9) (.c (.int 0))) (.v 12)) (.cons (.ix (.ix (.v 11) (.c (.int 0))) (.v 12)) .nil))))) (.cons (.ite (.or (.cmp .ne (.slc false (.v 13) .skip (.c (.int 3))) (.slc false (.ix (.ix (.v 10) (.c (.int 0))) (.v 12)) .skip (.c (.int 3)))) (.cmp .ne (.bin false .band (.ix (.ix (.ix (.v 11) (.c (.int 0))) (.v 12)) (.c (.int 3))) (.ix (.v 13) (.c (.int 3)))) (.ix (.ix (.ix (.v 11) (.c (.int 0))) (.v 12)) (.c (.int 3))))) (.cons (.ret (.c (.bool false)))
    .nil) .nil)
   .nil))
  (.cons (.ite (.cmp .ne (.bin false .bor (.ix (.ix (.ix (.v 8) (.c (.int 0))) (.v 12)) (.c (.int 3))) (.ix (.ix (.ix (.v 9) (.c (.int 0))) (.v 12)) (.c (.int 3)))) (.ix (.ix (.ix (.v 10) (.c (.int 0))) (.v 12)) (.c (.int 3)))) (.cons (.ret (.c (.bool false)))
   .nil) .nil)
  .nil)))
 (.cons (.for_ (.tp (.cons (.nm 14) (.cons (.nm 15) .nil))) (.lst (.lst true (.cons (.tup (.cons (.v 8) (.cons (.v 4) .nil))) (.cons (.tup (.cons (.v 10) (.cons (.bin false .bor (.v 4) (.v 5)) .nil))) .nil)))) (.cons (.ite (.cmp .ne (.call true 10 (.cons (.v 1) (.cons (.v 2) (.cons (.v 15) (.cons (.v 7) .nil)))) []) (.call true 20 (.cons (.v 14) (.cons (.v 7) .nil)) [])) (.cons (.ret (.c (.bool false)))
   .nil) .nil)
  .nil))
 (.cons (.ret (.c (.bool true)))
 .nil)))))))))))))))
def d_law : FD := ⟨1, 16, b21⟩
def G : Pg := ⟨fun f => match f with
  | 1 => some d_Frame___init__
  | 2 => some d_Frame_put
  | 3 => some d_Frame_is_dyed
  | 4 => some d_new_frame
  | 5 => some d_worked_out
  | 6 => some d_do_row
  | 7 => some d_called
  | 8 => some d_state_of
  | 9 => some d_given_back
  | 10 => some d_run
  | 11 => some d__law_cell
  | 12 => some d__law_state
  | 13 => some d__law_next
  | 14 => some d__law_kind
  | 15 => some d__law_row
  | 16 => some d__law_heads
  | 17 => some d__law_places
  | 18 => some d__law_program
  | 19 => some d__law_values
  | 20 => some d__law_cut
  | 21 => some d_law
  | _ => none, fun k => match k with
  | 0 => some (.int 1000000000000000000)
  | _ => none⟩
theorem G1 : G.defs 1 = some d_Frame___init__ := rfl
theorem G2 : G.defs 2 = some d_Frame_put := rfl
theorem G3 : G.defs 3 = some d_Frame_is_dyed := rfl
theorem G4 : G.defs 4 = some d_new_frame := rfl
theorem G5 : G.defs 5 = some d_worked_out := rfl
theorem G6 : G.defs 6 = some d_do_row := rfl
theorem G7 : G.defs 7 = some d_called := rfl
theorem G8 : G.defs 8 = some d_state_of := rfl
theorem G9 : G.defs 9 = some d_given_back := rfl
theorem G10 : G.defs 10 = some d_run := rfl
theorem G11 : G.defs 11 = some d__law_cell := rfl
theorem G12 : G.defs 12 = some d__law_state := rfl
theorem G13 : G.defs 13 = some d__law_next := rfl
theorem G14 : G.defs 14 = some d__law_kind := rfl
theorem G15 : G.defs 15 = some d__law_row := rfl
theorem G16 : G.defs 16 = some d__law_heads := rfl
theorem G17 : G.defs 17 = some d__law_places := rfl
theorem G18 : G.defs 18 = some d__law_program := rfl
theorem G19 : G.defs 19 = some d__law_values := rfl
theorem G20 : G.defs 20 = some d__law_cut := rfl
theorem G21 : G.defs 21 = some d_law := rfl
end Lk73

set_option Elab.async false
set_option linter.all false
set_option maxRecDepth 100000
set_option maxHeartbeats 4000000
namespace Lk73
open PySem Y
theorem ff : (("function" : Str) == "function") = true ∧ (("due" : Str) == "function") = false ∧ (("due" : Str) == "due") = true ∧ (("held" : Str) == "function") = false ∧ (("held" : Str) == "due") = false ∧ (("held" : Str) == "held") = true ∧ (("dyes" : Str) == "function") = false ∧ (("dyes" : Str) == "due") = false ∧ (("dyes" : Str) == "held") = false ∧ (("dyes" : Str) == "dyes") = true := by decide +kernel
theorem fm : (("put" : Str) == "function") = false ∧ (("put" : Str) == "due") = false ∧ (("put" : Str) == "held") = false ∧ (("put" : Str) == "dyes") = false ∧ (("is_dyed" : Str) == "function") = false ∧ (("is_dyed" : Str) == "due") = false ∧ (("is_dyed" : Str) == "held") = false ∧ (("is_dyed" : Str) == "dyes") = false := by decide +kernel
theorem fp : ¬ (("function" : Str) = "due") ∧ ¬ (("function" : Str) = "held") ∧ ¬ (("due" : Str) = "held") ∧ ¬ (("function" : Str) = "dyes") ∧ ¬ (("due" : Str) = "dyes") ∧ ¬ (("held" : Str) = "dyes") := by decide +kernel
def fr4 (a b c d : U) : List (Str × U) := [("function", a), ("due", b), ("held", c), ("dyes", d)]
theorem lk (a b c d : U) : List.lookup ("function" : Str) (fr4 a b c d) = some a ∧ List.lookup ("due" : Str) (fr4 a b c d) = some b ∧ List.lookup ("held" : Str) (fr4 a b c d) = some c ∧ List.lookup ("dyes" : Str) (fr4 a b c d) = some d := by
  simp [fr4, List.lookup, ff]
theorem lkm (a b c d : U) : List.lookup ("put" : Str) (fr4 a b c d) = none ∧ List.lookup ("is_dyed" : Str) (fr4 a b c d) = none := by
  simp [fr4, List.lookup, fm]
theorem pf (a b c d v : U) : putFU "due" v (fr4 a b c d) = fr4 a v c d ∧ putFU "dyes" v (fr4 a b c d) = fr4 a b c v := by
  simp [fr4, putFU, fp]
theorem pi (a b c d : U) : putFU "dyes" d (putFU "held" c (putFU "due" b (putFU "function" a []))) = fr4 a b c d := by
  simp [fr4, putFU, fp]
def maskN : List Bool → Nat
  | [] => 0
  | b :: r => b.toNat + 2 * maskN r
theorem mask_bit : ∀ (l : List Bool) (i : Nat), (maskN l).testBit i = l.getD i false
  | [], i => by simp [maskN]
  | b :: r, 0 => by
    simp only [maskN, List.getD_cons_zero]
    rw [Nat.testBit_zero]
    cases b <;> simp <;> omega
  | b :: r, i + 1 => by
    simp only [maskN, List.getD_cons_succ]
    rw [Nat.testBit_succ, ← mask_bit r i]
    congr 1
    cases b <;> simp <;> omega
theorem mask_set (l : List Bool) (x : Nat) (h : x < l.length) (b : Bool) : maskN (l.set x b) = if b = true then maskN l ||| 2 ^ x else (maskN l ||| 2 ^ x) ^^^ 2 ^ x := by
  apply Nat.eq_of_testBit_eq
  intro i
  rw [mask_bit]
  by_cases hi : i = x
  · subst hi
    have : (l.set i b).getD i false = b := by simp [List.getD, h]
    rw [this]
    cases b <;> simp [Nat.testBit_or, Nat.testBit_xor, Nat.testBit_two_pow_self]
  · have : (l.set x b).getD i false = l.getD i false := by simp [List.getD, List.getElem?_set_ne (Ne.symm hi)]
    rw [this]
    have h2 : (2 ^ x).testBit i = false := Nat.testBit_two_pow_of_ne (Ne.symm hi)
    cases b <;> simp [Nat.testBit_or, Nat.testBit_xor, h2, mask_bit]
structure Fr where
  f : Int
  a : Int
  held : List Int
  dy : List Bool
structure FrAt (O T : Cs) (r h : Nat) (fr : Fr) : Prop where
  lo : O.length ≤ r
  lh : O.length ≤ h
  ne : r ≠ h
  gi : getC O T r = some (.ins 0 (fr4 (.d (.int fr.f)) (.d (.int fr.a)) (.ref h) (.d (.int (maskN fr.dy : Nat)))))
  gh : getC O T h = some (.lst (fr.held.map .int))
  len : fr.held.length = fr.dy.length
  le : fr.dy.length ≤ 4
def Only (O : Cs) (r h : Nat) (T T' : Cs) : Prop := T'.length = T.length ∧ ∀ i, i ≠ r → i ≠ h → getC O T' i = getC O T i
theorem Only.trans {O T T' T'' : Cs} {r h : Nat} (a : Only O r h T T') (b : Only O r h T' T'') : Only O r h T T'' := ⟨by rw [b.1, a.1], fun i h1 h2 => by rw [b.2 i h1 h2, a.2 i h1 h2]⟩
theorem get_set_ne {O T : Cs} {i j : Nat} {c : Cell} (hj : O.length ≤ j) (h : i ≠ j) : getC O (T.set (j - O.length) c) i = getC O T i := by
  rw [getC_eq, getC_eq]
  by_cases hi : i < O.length
  · rw [List.getElem?_append_left hi, List.getElem?_append_left hi]
  · rw [List.getElem?_append_right (by omega), List.getElem?_append_right (by omega), List.getElem?_set_ne (by omega)]
theorem own_lt {O T : Cs} {r : Nat} {c : Cell} (h : getC O T r = some c) : r < O.length + T.length := by
  rw [getC_eq] at h
  have := (List.getElem?_eq_some_iff.mp h).1
  simpa using this
section
variable {O T : Cs} {r h : Nat} {fr : Fr}
theorem FrAt.cls (F : FrAt O T r h fr) : clsOf O T (.ref r) = some 0 := by
  unfold clsOf
  simp only [F.gi]
theorem FrAt.fld (F : FrAt O T r h fr) : fldU O (.ref r) "function" T = some (.d (.int fr.f)) ∧ fldU O (.ref r) "due" T = some (.d (.int fr.a)) ∧ fldU O (.ref r) "held" T = some (.ref h) ∧ fldU O (.ref r) "dyes" T = some (.d (.int (maskN fr.dy : Nat))) := by
  have e : ∀ n, fldU O (.ref r) n T = List.lookup n (fr4 (.d (.int fr.f)) (.d (.int fr.a)) (.ref h) (.d (.int (maskN fr.dy : Nat)))) := fun n => by
    unfold fldU
    simp only [F.gi]
  simp only [e]
  exact lk _ _ _ _
theorem FrAt.nom (F : FrAt O T r h fr) : fldU O (.ref r) "put" T = none ∧ fldU O (.ref r) "is_dyed" T = none := by
  have e : ∀ n, fldU O (.ref r) n T = List.lookup n (fr4 (.d (.int fr.f)) (.d (.int fr.a)) (.ref h) (.d (.int (maskN fr.dy : Nat)))) := fun n => by
    unfold fldU
    simp only [F.gi]
  simp only [e]
  exact lkm _ _ _ _
theorem FrAt.setf (F : FrAt O T r h fr) (n : Str) (v : U) : setfU O (.ref r) n v T = .ok (.d .none) (T.set (r - O.length) (.ins 0 (putFU n v (fr4 (.d (.int fr.f)) (.d (.int fr.a)) (.ref h) (.d (.int (maskN fr.dy : Nat))))))) := by
  unfold setfU
  simp only [F.gi]
  have h1 := own_lt F.gi
  rw [if_pos (by simp [fr4])]
  unfold setC
  rw [if_pos ⟨F.lo, h1⟩]
/-- the due row is set -/
theorem FrAt.due (F : FrAt O T r h fr) (v : Int) : ∃ T', setfU O (.ref r) "due" (.d (.int v)) T = .ok (.d .none) T' ∧ FrAt O T' r h { fr with a := v } ∧ Only O r h T T' := by
  refine ⟨_, F.setf "due" _, ⟨F.lo, F.lh, F.ne, ?_, ?_, F.len, F.le⟩, by simp, fun i h1 _ => get_set_ne F.lo h1⟩
  · rw [set_get F.gi F.lo, (pf _ _ _ _ _).1]
  · rw [get_set_ne F.lo (Ne.symm F.ne)]
    exact F.gh
end
theorem two_pow_cast (x : Int) : ((2 : Int) ^ x.toNat) = ((2 ^ x.toNat : Nat) : Int) := by simp
theorem put_ok (n : Nat) {O T : Cs} {r h : Nat} {fr : Fr} (F : FrAt O T r h fr) (x v : Int) (b : Bool) (x0 : 0 ≤ x) (x1 : x < fr.held.length) :
    ∃ T', FrAt O T' r h { fr with held := fr.held.set x.toNat v, dy := fr.dy.set x.toNat b } ∧ Only O r h T T' ∧ Y.run G (n + 1) O 2 [.ref r, .d (.int x), .d (.int v), .d (.bool b)] T = .ok (.d .none) T' := by
  have hl := F.len
  have hm1 := mask_set fr.dy x.toNat (by omega) true
  have hm2 := mask_set fr.dy x.toNat (by omega) false
  simp only [if_true, Bool.false_eq_true, if_false] at hm1 hm2
  -- the value
  have hsl : x.toNat < (fr.held.map PyData.int).length := by simp; omega
  have e1 : setiU O (.ref h) (.d (.int x)) (.d (.int v)) T = .ok (.d .none) (T.set (h - O.length) (.lst ((fr.held.set x.toNat v).map .int))) := by
    unfold setiU
    simp only [F.gh]
    have : L2.ixN (fr.held.map PyData.int).length x = some x.toNat := by
      unfold L2.ixN
      simp [x0, x1]
    simp only [this]
    unfold setC
    rw [if_pos ⟨F.lh, own_lt F.gh⟩, List.map_set]
  have F1 : FrAt O (T.set (h - O.length) (.lst ((fr.held.set x.toNat v).map .int))) r h { fr with held := fr.held.set x.toNat v } := by
    refine ⟨F.lo, F.lh, F.ne, ?_, ?_, by simpa using F.len, F.le⟩
    · rw [get_set_ne F.lh F.ne]
      exact F.gi
    · rw [set_get F.gh F.lh]
  have O1 : Only O r h T (T.set (h - O.length) (.lst ((fr.held.set x.toNat v).map .int))) := ⟨by simp, fun i _ h2 => get_set_ne F.lh h2⟩
  generalize T.set (h - O.length) (.lst ((fr.held.set x.toNat v).map .int)) = T1 at *
  -- the dye
  have F2 : FrAt O (T1.set (r - O.length) (.ins 0 (putFU "dyes" (.d (.int ((maskN (fr.dy.set x.toNat true) : Nat) : Int))) (fr4 (.d (.int fr.f)) (.d (.int fr.a)) (.ref h) (.d (.int (maskN fr.dy : Nat))))))) r h { fr with held := fr.held.set x.toNat v, dy := fr.dy.set x.toNat true } := by
    refine ⟨F.lo, F.lh, F.ne, ?_, ?_, by simpa using F.len, by simpa using F.le⟩
    · rw [set_get F1.gi F.lo, (pf _ _ _ _ _).2]
    · rw [get_set_ne F.lo (Ne.symm F.ne)]
      exact F1.gh
  have e2 := F1.setf "dyes" (.d (.int ((maskN (fr.dy.set x.toNat true) : Nat) : Int)))
  have O2 : Only O r h T1 (T1.set (r - O.length) (.ins 0 (putFU "dyes" (.d (.int ((maskN (fr.dy.set x.toNat true) : Nat) : Int))) (fr4 (.d (.int fr.f)) (.d (.int fr.a)) (.ref h) (.d (.int (maskN fr.dy : Nat))))))) := ⟨by simp, fun i h1 _ => get_set_ne F.lo h1⟩
  simp only at e2
  generalize T1.set (r - O.length) (.ins 0 (putFU "dyes" (.d (.int ((maskN (fr.dy.set x.toNat true) : Nat) : Int))) (fr4 (.d (.int fr.f)) (.d (.int fr.a)) (.ref h) (.d (.int (maskN fr.dy : Nat)))))) = T2 at *
  have F3 : FrAt O (T2.set (r - O.length) (.ins 0 (putFU "dyes" (.d (.int ((maskN (fr.dy.set x.toNat false) : Nat) : Int))) (fr4 (.d (.int fr.f)) (.d (.int fr.a)) (.ref h) (.d (.int (maskN (fr.dy.set x.toNat true) : Nat))))))) r h { fr with held := fr.held.set x.toNat v, dy := fr.dy.set x.toNat false } := by
    refine ⟨F.lo, F.lh, F.ne, ?_, ?_, by simpa using F.len, by simpa using F.le⟩
    · rw [set_get F2.gi F.lo, (pf _ _ _ _ _).2]
    · rw [get_set_ne F.lo (Ne.symm F.ne)]
      exact F2.gh
  have e3 := F2.setf "dyes" (.d (.int ((maskN (fr.dy.set x.toNat false) : Nat) : Int)))
  have O3 : Only O r h T2 (T2.set (r - O.length) (.ins 0 (putFU "dyes" (.d (.int ((maskN (fr.dy.set x.toNat false) : Nat) : Int))) (fr4 (.d (.int fr.f)) (.d (.int fr.a)) (.ref h) (.d (.int (maskN (fr.dy.set x.toNat true) : Nat))))))) := ⟨by simp, fun i h1 _ => get_set_ne F.lo h1⟩
  simp only at e3
  generalize T2.set (r - O.length) (.ins 0 (putFU "dyes" (.d (.int ((maskN (fr.dy.set x.toNat false) : Nat) : Int))) (fr4 (.d (.int fr.f)) (.d (.int fr.a)) (.ref h) (.d (.int (maskN (fr.dy.set x.toNat true) : Nat)))))) = T3 at *
  have v1 : Builtin.bitOr ((maskN fr.dy : Nat) : Int) (2 ^ x.toNat) = ((maskN (fr.dy.set x.toNat true) : Nat) : Int) := by
    rw [two_pow_cast, bitOr_n, hm1]
  have v2 : Builtin.bitXor ((maskN (fr.dy.set x.toNat true) : Nat) : Int) (2 ^ x.toNat) = ((maskN (fr.dy.set x.toNat false) : Nat) : Int) := by
    rw [two_pow_cast, bitXor_n, hm2, hm1]
  have hx : 0 ≤ x ∧ x ≤ 1000 := by
    have := F.le
    omega
  have f0 := F.fld
  have f1 := F1.fld
  have f2 := F2.fld
  have c0 := F.cls
  have c1 := F1.cls
  have c2 := F2.cls
  clear hm1 hm2
  simp only at f1 f2
  generalize ((maskN (fr.dy.set x.toNat false) : Nat) : Int) = M3 at *
  generalize ((maskN (fr.dy.set x.toNat true) : Nat) : Int) = M2 at *
  generalize ((maskN fr.dy : Nat) : Int) = M1 at *
  cases b with
  | true =>
    refine ⟨T2, F2, O1.trans O2, Gv.eq (run_wp G2 rfl ?_)⟩
    generalize cn G n = C
    unfold b2
    simp [f0, c0, e1, f1, c1, hx, v1, e2]
  | false =>
    refine ⟨T3, F3, (O1.trans O2).trans O3, Gv.eq (run_wp G2 rfl ?_)⟩
    generalize cn G n = C
    unfold b2
    simp [f0, c0, e1, f1, c1, hx, v1, e2, f2, c2, v2, e3]
theorem isdyed_ok (n : Nat) {O T : Cs} {r h : Nat} {fr : Fr} (F : FrAt O T r h fr) (x : Int) (x0 : 0 ≤ x) : Y.run G (n + 1) O 3 [.ref r, .d (.int x)] T = .ok (.d (.bool (fr.dy.getD x.toNat false))) T := by
  refine Gv.eq (run_wp G3 rfl ?_)
  have f0 := F.fld
  have c0 := F.cls
  have hb := bit_iff (maskN fr.dy) x.toNat
  rw [mask_bit] at hb
  have hv : decide (Builtin.bitAnd (((maskN fr.dy : Nat) : Int) / 2 ^ x.toNat) 1 = 1) = fr.dy.getD x.toNat false := by
    rw [Bool.eq_iff_iff, decide_eq_true_eq]
    exact hb
  rw [← hv]
  generalize ((maskN fr.dy : Nat) : Int) = M at *
  generalize cn G n = C
  unfold b3
  simp [f0, c0, x0]
def stD (s a : Int) (fr : Fr) : D := .tuple [.int s, .int fr.f, .int a, .int (1 + 2 * (maskN fr.dy : Nat) : Int)]
theorem wp_mono2' {r : F} {nx bk ct : Rho → Cs → Prop} {rt : U → Cs → Prop} (h : Wp r (fun _ _ => False) bk ct rt) : Wp r nx bk ct rt := by
  cases r with
  | nx => exact h.elim
  | rt u T => exact h
  | bk => exact h
  | ct => exact h
  | exc => exact h
  | fail => exact h
theorem mask_lt (l : List Bool) (h : l.length ≤ 4) : maskN l < 16 := by
  have : maskN l < 2 ^ 4 := by
    apply Nat.lt_pow_two_of_testBit
    intro i hi
    rw [mask_bit]
    simp [List.getD, List.getElem?_eq_none (by omega : l.length ≤ i)]
  exact this
theorem or_one (m : Nat) : Builtin.bitOr 1 ((m : Int) * 2) = 1 + 2 * (m : Int) := by
  have e : ((m : Int) * 2) = ((m * 2 : Nat) : Int) := by omega
  rw [e]
  have e1 : Builtin.bitOr 1 ((m * 2 : Nat) : Int) = ((1 ||| m * 2 : Nat) : Int) := bitOr_n 1 (m * 2)
  have e2 : 1 ||| m * 2 = 1 + 2 * m := by
    apply Nat.eq_of_testBit_eq
    intro i
    rw [Nat.testBit_or]
    cases i with
    | zero => simp [Nat.testBit_zero]
    | succ i =>
      have e1 : (1 + 2 * m) / 2 = m := by omega
      have e2 : (m * 2) / 2 = m := by omega
      rw [Nat.testBit_succ, Nat.testBit_succ, Nat.testBit_succ, e1, e2]
      simp
  rw [e1, e2]
  omega
theorem stateof_w {C : Cn} {O T : Cs} (r : Nat) (s f a M : Int) (c0 : clsOf O T (.ref r) = some 0) (f1 : fldU O (.ref r) "function" T = some (.d (.int f))) (f2 : fldU O (.ref r) "due" T = some (.d (.int a))) (f3 : fldU O (.ref r) "dyes" T = some (.d (.int M))) (hM : 0 ≤ M ∧ M < 16) (hv : Builtin.bitOr 1 (M * 2) = 1 + 2 * M) : Wp (denB C O b8 [some (.d (.int s)), some (.ref r)] T) (fun _ _ => False) (fun _ _ => False) (fun _ _ => False) (fun u T' => u = .d (.tuple [.int s, .int f, .int a, .int (1 + 2 * M)]) ∧ T' = T) := by
  have hMb : -18446744073709551616 < M ∧ M < 18446744073709551616 := by omega
  unfold b8
  simp [c0, f1, f2, f3, hMb, hv]
theorem stateof_ok (n : Nat) {O T : Cs} {r h : Nat} {fr : Fr} (F : FrAt O T r h fr) (s : Int) : Y.run G (n + 1) O 8 [.d (.int s), .ref r] T = .ok (.d (stD s fr.a fr)) T := by
  have hw := fun C => stateof_w (C := C) r s fr.f fr.a ((maskN fr.dy : Nat) : Int) F.cls F.fld.1 F.fld.2.1 F.fld.2.2.2 (by have := mask_lt fr.dy F.le; omega) (or_one _)
  refine Gv.eq (run_wp G8 rfl ?_)
  exact wp_mono2' (hw _)
theorem eqT {O T : Cs} {a b : Str} (ha : lay 0 (.str a)) (hb : lay 0 (.str b)) {r : Bool} (h : decide (a = b) = r) : cmpU O .eq (.d (.str a)) (.d (.str b)) T = some r := by
  rw [str_eq ha hb, h]
theorem l_number : lay 0 (.str "number") := ⟨by decide +kernel, Nat.le_refl _⟩
theorem l_copy : lay 0 (.str "copy") := ⟨by decide +kernel, Nat.le_refl _⟩
theorem l_does : lay 0 (.str "does") := ⟨by decide +kernel, Nat.le_refl _⟩
theorem l_dye : lay 0 (.str "dye") := ⟨by decide +kernel, Nat.le_refl _⟩
theorem l_wash : lay 0 (.str "wash") := ⟨by decide +kernel, Nat.le_refl _⟩
theorem l_to : lay 0 (.str "to") := ⟨by decide +kernel, Nat.le_refl _⟩
theorem l_if : lay 0 (.str "if") := ⟨by decide +kernel, Nat.le_refl _⟩
theorem l_return : lay 0 (.str "return") := ⟨by decide +kernel, Nat.le_refl _⟩
theorem l_call : lay 0 (.str "call") := ⟨by decide +kernel, Nat.le_refl _⟩
theorem l_p : lay 0 (.str "+") := ⟨by decide +kernel, Nat.le_refl _⟩
theorem l_m : lay 0 (.str "-") := ⟨by decide +kernel, Nat.le_refl _⟩
theorem l_t : lay 0 (.str "*") := ⟨by decide +kernel, Nat.le_refl _⟩
theorem q_number_number {O T : Cs} : cmpU O .eq (.d (.str "number")) (.d (.str "number")) T = some true := eqT l_number l_number (by decide +kernel)
theorem q_number_copy {O T : Cs} : cmpU O .eq (.d (.str "number")) (.d (.str "copy")) T = some false := eqT l_number l_copy (by decide +kernel)
theorem q_number_does {O T : Cs} : cmpU O .eq (.d (.str "number")) (.d (.str "does")) T = some false := eqT l_number l_does (by decide +kernel)
theorem q_number_dye {O T : Cs} : cmpU O .eq (.d (.str "number")) (.d (.str "dye")) T = some false := eqT l_number l_dye (by decide +kernel)
theorem q_number_wash {O T : Cs} : cmpU O .eq (.d (.str "number")) (.d (.str "wash")) T = some false := eqT l_number l_wash (by decide +kernel)
theorem q_number_to {O T : Cs} : cmpU O .eq (.d (.str "number")) (.d (.str "to")) T = some false := eqT l_number l_to (by decide +kernel)
theorem q_number_if {O T : Cs} : cmpU O .eq (.d (.str "number")) (.d (.str "if")) T = some false := eqT l_number l_if (by decide +kernel)
theorem q_number_return {O T : Cs} : cmpU O .eq (.d (.str "number")) (.d (.str "return")) T = some false := eqT l_number l_return (by decide +kernel)
theorem q_number_call {O T : Cs} : cmpU O .eq (.d (.str "number")) (.d (.str "call")) T = some false := eqT l_number l_call (by decide +kernel)
theorem q_copy_number {O T : Cs} : cmpU O .eq (.d (.str "copy")) (.d (.str "number")) T = some false := eqT l_copy l_number (by decide +kernel)
theorem q_copy_copy {O T : Cs} : cmpU O .eq (.d (.str "copy")) (.d (.str "copy")) T = some true := eqT l_copy l_copy (by decide +kernel)
theorem q_copy_does {O T : Cs} : cmpU O .eq (.d (.str "copy")) (.d (.str "does")) T = some false := eqT l_copy l_does (by decide +kernel)
theorem q_copy_dye {O T : Cs} : cmpU O .eq (.d (.str "copy")) (.d (.str "dye")) T = some false := eqT l_copy l_dye (by decide +kernel)
theorem q_copy_wash {O T : Cs} : cmpU O .eq (.d (.str "copy")) (.d (.str "wash")) T = some false := eqT l_copy l_wash (by decide +kernel)
theorem q_copy_to {O T : Cs} : cmpU O .eq (.d (.str "copy")) (.d (.str "to")) T = some false := eqT l_copy l_to (by decide +kernel)
theorem q_copy_if {O T : Cs} : cmpU O .eq (.d (.str "copy")) (.d (.str "if")) T = some false := eqT l_copy l_if (by decide +kernel)
theorem q_copy_return {O T : Cs} : cmpU O .eq (.d (.str "copy")) (.d (.str "return")) T = some false := eqT l_copy l_return (by decide +kernel)
theorem q_copy_call {O T : Cs} : cmpU O .eq (.d (.str "copy")) (.d (.str "call")) T = some false := eqT l_copy l_call (by decide +kernel)
theorem q_does_number {O T : Cs} : cmpU O .eq (.d (.str "does")) (.d (.str "number")) T = some false := eqT l_does l_number (by decide +kernel)
theorem q_does_copy {O T : Cs} : cmpU O .eq (.d (.str "does")) (.d (.str "copy")) T = some false := eqT l_does l_copy (by decide +kernel)
theorem q_does_does {O T : Cs} : cmpU O .eq (.d (.str "does")) (.d (.str "does")) T = some true := eqT l_does l_does (by decide +kernel)
theorem q_does_dye {O T : Cs} : cmpU O .eq (.d (.str "does")) (.d (.str "dye")) T = some false := eqT l_does l_dye (by decide +kernel)
theorem q_does_wash {O T : Cs} : cmpU O .eq (.d (.str "does")) (.d (.str "wash")) T = some false := eqT l_does l_wash (by decide +kernel)
theorem q_does_to {O T : Cs} : cmpU O .eq (.d (.str "does")) (.d (.str "to")) T = some false := eqT l_does l_to (by decide +kernel)
theorem q_does_if {O T : Cs} : cmpU O .eq (.d (.str "does")) (.d (.str "if")) T = some false := eqT l_does l_if (by decide +kernel)
theorem q_does_return {O T : Cs} : cmpU O .eq (.d (.str "does")) (.d (.str "return")) T = some false := eqT l_does l_return (by decide +kernel)
theorem q_does_call {O T : Cs} : cmpU O .eq (.d (.str "does")) (.d (.str "call")) T = some false := eqT l_does l_call (by decide +kernel)
theorem q_dye_number {O T : Cs} : cmpU O .eq (.d (.str "dye")) (.d (.str "number")) T = some false := eqT l_dye l_number (by decide +kernel)
theorem q_dye_copy {O T : Cs} : cmpU O .eq (.d (.str "dye")) (.d (.str "copy")) T = some false := eqT l_dye l_copy (by decide +kernel)
theorem q_dye_does {O T : Cs} : cmpU O .eq (.d (.str "dye")) (.d (.str "does")) T = some false := eqT l_dye l_does (by decide +kernel)
theorem q_dye_dye {O T : Cs} : cmpU O .eq (.d (.str "dye")) (.d (.str "dye")) T = some true := eqT l_dye l_dye (by decide +kernel)
theorem q_dye_wash {O T : Cs} : cmpU O .eq (.d (.str "dye")) (.d (.str "wash")) T = some false := eqT l_dye l_wash (by decide +kernel)
theorem q_dye_to {O T : Cs} : cmpU O .eq (.d (.str "dye")) (.d (.str "to")) T = some false := eqT l_dye l_to (by decide +kernel)
theorem q_dye_if {O T : Cs} : cmpU O .eq (.d (.str "dye")) (.d (.str "if")) T = some false := eqT l_dye l_if (by decide +kernel)
theorem q_dye_return {O T : Cs} : cmpU O .eq (.d (.str "dye")) (.d (.str "return")) T = some false := eqT l_dye l_return (by decide +kernel)
theorem q_dye_call {O T : Cs} : cmpU O .eq (.d (.str "dye")) (.d (.str "call")) T = some false := eqT l_dye l_call (by decide +kernel)
theorem q_wash_number {O T : Cs} : cmpU O .eq (.d (.str "wash")) (.d (.str "number")) T = some false := eqT l_wash l_number (by decide +kernel)
theorem q_wash_copy {O T : Cs} : cmpU O .eq (.d (.str "wash")) (.d (.str "copy")) T = some false := eqT l_wash l_copy (by decide +kernel)
theorem q_wash_does {O T : Cs} : cmpU O .eq (.d (.str "wash")) (.d (.str "does")) T = some false := eqT l_wash l_does (by decide +kernel)
theorem q_wash_dye {O T : Cs} : cmpU O .eq (.d (.str "wash")) (.d (.str "dye")) T = some false := eqT l_wash l_dye (by decide +kernel)
theorem q_wash_wash {O T : Cs} : cmpU O .eq (.d (.str "wash")) (.d (.str "wash")) T = some true := eqT l_wash l_wash (by decide +kernel)
theorem q_wash_to {O T : Cs} : cmpU O .eq (.d (.str "wash")) (.d (.str "to")) T = some false := eqT l_wash l_to (by decide +kernel)
theorem q_wash_if {O T : Cs} : cmpU O .eq (.d (.str "wash")) (.d (.str "if")) T = some false := eqT l_wash l_if (by decide +kernel)
theorem q_wash_return {O T : Cs} : cmpU O .eq (.d (.str "wash")) (.d (.str "return")) T = some false := eqT l_wash l_return (by decide +kernel)
theorem q_wash_call {O T : Cs} : cmpU O .eq (.d (.str "wash")) (.d (.str "call")) T = some false := eqT l_wash l_call (by decide +kernel)
theorem q_to_number {O T : Cs} : cmpU O .eq (.d (.str "to")) (.d (.str "number")) T = some false := eqT l_to l_number (by decide +kernel)
theorem q_to_copy {O T : Cs} : cmpU O .eq (.d (.str "to")) (.d (.str "copy")) T = some false := eqT l_to l_copy (by decide +kernel)
theorem q_to_does {O T : Cs} : cmpU O .eq (.d (.str "to")) (.d (.str "does")) T = some false := eqT l_to l_does (by decide +kernel)
theorem q_to_dye {O T : Cs} : cmpU O .eq (.d (.str "to")) (.d (.str "dye")) T = some false := eqT l_to l_dye (by decide +kernel)
theorem q_to_wash {O T : Cs} : cmpU O .eq (.d (.str "to")) (.d (.str "wash")) T = some false := eqT l_to l_wash (by decide +kernel)
theorem q_to_to {O T : Cs} : cmpU O .eq (.d (.str "to")) (.d (.str "to")) T = some true := eqT l_to l_to (by decide +kernel)
theorem q_to_if {O T : Cs} : cmpU O .eq (.d (.str "to")) (.d (.str "if")) T = some false := eqT l_to l_if (by decide +kernel)
theorem q_to_return {O T : Cs} : cmpU O .eq (.d (.str "to")) (.d (.str "return")) T = some false := eqT l_to l_return (by decide +kernel)
theorem q_to_call {O T : Cs} : cmpU O .eq (.d (.str "to")) (.d (.str "call")) T = some false := eqT l_to l_call (by decide +kernel)
theorem q_if_number {O T : Cs} : cmpU O .eq (.d (.str "if")) (.d (.str "number")) T = some false := eqT l_if l_number (by decide +kernel)
theorem q_if_copy {O T : Cs} : cmpU O .eq (.d (.str "if")) (.d (.str "copy")) T = some false := eqT l_if l_copy (by decide +kernel)
theorem q_if_does {O T : Cs} : cmpU O .eq (.d (.str "if")) (.d (.str "does")) T = some false := eqT l_if l_does (by decide +kernel)
theorem q_if_dye {O T : Cs} : cmpU O .eq (.d (.str "if")) (.d (.str "dye")) T = some false := eqT l_if l_dye (by decide +kernel)
theorem q_if_wash {O T : Cs} : cmpU O .eq (.d (.str "if")) (.d (.str "wash")) T = some false := eqT l_if l_wash (by decide +kernel)
theorem q_if_to {O T : Cs} : cmpU O .eq (.d (.str "if")) (.d (.str "to")) T = some false := eqT l_if l_to (by decide +kernel)
theorem q_if_if {O T : Cs} : cmpU O .eq (.d (.str "if")) (.d (.str "if")) T = some true := eqT l_if l_if (by decide +kernel)
theorem q_if_return {O T : Cs} : cmpU O .eq (.d (.str "if")) (.d (.str "return")) T = some false := eqT l_if l_return (by decide +kernel)
theorem q_if_call {O T : Cs} : cmpU O .eq (.d (.str "if")) (.d (.str "call")) T = some false := eqT l_if l_call (by decide +kernel)
theorem q_return_number {O T : Cs} : cmpU O .eq (.d (.str "return")) (.d (.str "number")) T = some false := eqT l_return l_number (by decide +kernel)
theorem q_return_copy {O T : Cs} : cmpU O .eq (.d (.str "return")) (.d (.str "copy")) T = some false := eqT l_return l_copy (by decide +kernel)
theorem q_return_does {O T : Cs} : cmpU O .eq (.d (.str "return")) (.d (.str "does")) T = some false := eqT l_return l_does (by decide +kernel)
theorem q_return_dye {O T : Cs} : cmpU O .eq (.d (.str "return")) (.d (.str "dye")) T = some false := eqT l_return l_dye (by decide +kernel)
theorem q_return_wash {O T : Cs} : cmpU O .eq (.d (.str "return")) (.d (.str "wash")) T = some false := eqT l_return l_wash (by decide +kernel)
theorem q_return_to {O T : Cs} : cmpU O .eq (.d (.str "return")) (.d (.str "to")) T = some false := eqT l_return l_to (by decide +kernel)
theorem q_return_if {O T : Cs} : cmpU O .eq (.d (.str "return")) (.d (.str "if")) T = some false := eqT l_return l_if (by decide +kernel)
theorem q_return_return {O T : Cs} : cmpU O .eq (.d (.str "return")) (.d (.str "return")) T = some true := eqT l_return l_return (by decide +kernel)
theorem q_return_call {O T : Cs} : cmpU O .eq (.d (.str "return")) (.d (.str "call")) T = some false := eqT l_return l_call (by decide +kernel)
theorem q_call_number {O T : Cs} : cmpU O .eq (.d (.str "call")) (.d (.str "number")) T = some false := eqT l_call l_number (by decide +kernel)
theorem q_call_copy {O T : Cs} : cmpU O .eq (.d (.str "call")) (.d (.str "copy")) T = some false := eqT l_call l_copy (by decide +kernel)
theorem q_call_does {O T : Cs} : cmpU O .eq (.d (.str "call")) (.d (.str "does")) T = some false := eqT l_call l_does (by decide +kernel)
theorem q_call_dye {O T : Cs} : cmpU O .eq (.d (.str "call")) (.d (.str "dye")) T = some false := eqT l_call l_dye (by decide +kernel)
theorem q_call_wash {O T : Cs} : cmpU O .eq (.d (.str "call")) (.d (.str "wash")) T = some false := eqT l_call l_wash (by decide +kernel)
theorem q_call_to {O T : Cs} : cmpU O .eq (.d (.str "call")) (.d (.str "to")) T = some false := eqT l_call l_to (by decide +kernel)
theorem q_call_if {O T : Cs} : cmpU O .eq (.d (.str "call")) (.d (.str "if")) T = some false := eqT l_call l_if (by decide +kernel)
theorem q_call_return {O T : Cs} : cmpU O .eq (.d (.str "call")) (.d (.str "return")) T = some false := eqT l_call l_return (by decide +kernel)
theorem q_call_call {O T : Cs} : cmpU O .eq (.d (.str "call")) (.d (.str "call")) T = some true := eqT l_call l_call (by decide +kernel)
theorem o_p_p {O T : Cs} : cmpU O .eq (.d (.str "+")) (.d (.str "+")) T = some true := eqT l_p l_p (by decide +kernel)
theorem o_p_m {O T : Cs} : cmpU O .eq (.d (.str "+")) (.d (.str "-")) T = some false := eqT l_p l_m (by decide +kernel)
theorem o_p_t {O T : Cs} : cmpU O .eq (.d (.str "+")) (.d (.str "*")) T = some false := eqT l_p l_t (by decide +kernel)
theorem o_m_p {O T : Cs} : cmpU O .eq (.d (.str "-")) (.d (.str "+")) T = some false := eqT l_m l_p (by decide +kernel)
theorem o_m_m {O T : Cs} : cmpU O .eq (.d (.str "-")) (.d (.str "-")) T = some true := eqT l_m l_m (by decide +kernel)
theorem o_m_t {O T : Cs} : cmpU O .eq (.d (.str "-")) (.d (.str "*")) T = some false := eqT l_m l_t (by decide +kernel)
theorem o_t_p {O T : Cs} : cmpU O .eq (.d (.str "*")) (.d (.str "+")) T = some false := eqT l_t l_p (by decide +kernel)
theorem o_t_m {O T : Cs} : cmpU O .eq (.d (.str "*")) (.d (.str "-")) T = some false := eqT l_t l_m (by decide +kernel)
theorem o_t_t {O T : Cs} : cmpU O .eq (.d (.str "*")) (.d (.str "*")) T = some true := eqT l_t l_t (by decide +kernel)
theorem x2 (a b : D) : L2.atI [a, b] 0 = some a ∧ L2.atI [a, b] 1 = some b := ⟨rfl, rfl⟩
theorem x3 (a b c : D) : L2.atI [a, b, c] 0 = some a ∧ L2.atI [a, b, c] 1 = some b ∧ L2.atI [a, b, c] 2 = some c := ⟨rfl, rfl, rfl⟩
theorem x4 (a b c d : D) : L2.atI [a, b, c, d] 0 = some a ∧ L2.atI [a, b, c, d] 1 = some b ∧ L2.atI [a, b, c, d] 2 = some c ∧ L2.atI [a, b, c, d] 3 = some d := ⟨rfl, rfl, rfl, rfl⟩
theorem x5 (a b c d e : D) : L2.atI [a, b, c, d, e] 0 = some a ∧ L2.atI [a, b, c, d, e] 1 = some b ∧ L2.atI [a, b, c, d, e] 2 = some c ∧ L2.atI [a, b, c, d, e] 3 = some d ∧ L2.atI [a, b, c, d, e] 4 = some e := ⟨rfl, rfl, rfl, rfl, rfl⟩
inductive Rw where
  | num (x n : Int) | cp (x y : Int) | dz (x : Int) (op : Fin 3) (y z : Int) | dye (x : Int) | wash (x : Int) | to (r : Int) | iff (x r : Int) | ret (x : Int) | cl (x g : Int) (as : List Int)
def opS3 (op : Fin 3) : Str := match op with
  | 0 => "+"
  | 1 => "-"
  | 2 => "*"
def Rw.dd : Rw → D
  | .num x n => .tuple [.str "number", .int x, .int n]
  | .cp x y => .tuple [.str "copy", .int x, .int y]
  | .dz x op y z => .tuple [.str "does", .int x, .str (opS3 op), .int y, .int z]
  | .dye x => .tuple [.str "dye", .int x]
  | .wash x => .tuple [.str "wash", .int x]
  | .to r => .tuple [.str "to", .int r]
  | .iff x r => .tuple [.str "if", .int x, .int r]
  | .ret x => .tuple [.str "return", .int x]
  | .cl x g as => .tuple [.str "call", .int x, .int g, .tuple (as.map .int)]
def In (x : Int) (v : Nat) : Prop := 0 ≤ x ∧ x < v
/-- a row of a function of v variables, that is no call and no return -/
def PlainOk (v : Nat) : Rw → Prop
  | .num x _ => In x v
  | .cp x y => In x v ∧ In y v
  | .dz x _ y z => In x v ∧ In y v ∧ In z v
  | .dye x => In x v
  | .wash x => In x v
  | .to _ => True
  | .iff x _ => In x v
  | _ => False
def reck (op : Fin 3) (y z : Int) : Int := match op with
  | 0 => (y + z) % 1000000000000000000
  | 1 => (y - z) % 1000000000000000000
  | 2 => (y * z) % 1000000000000000000
def gI (l : List Int) (x : Int) : Int := l.getD x.toNat 0
def gB (l : List Bool) (x : Int) : Bool := l.getD x.toNat false
def plainR (r : Rw) (fr : Fr) : Fr := match r with
  | .num x n => { fr with a := fr.a + 1, held := fr.held.set x.toNat n, dy := fr.dy.set x.toNat false }
  | .cp x y => { fr with a := fr.a + 1, held := fr.held.set x.toNat (gI fr.held y), dy := fr.dy.set x.toNat (gB fr.dy y) }
  | .dz x op y z => { fr with a := fr.a + 1, held := fr.held.set x.toNat (reck op (gI fr.held y) (gI fr.held z)), dy := fr.dy.set x.toNat (gB fr.dy y || gB fr.dy z) }
  | .dye x => { fr with a := fr.a + 1, held := fr.held.set x.toNat (gI fr.held x), dy := fr.dy.set x.toNat true }
  | .wash x => { fr with a := fr.a + 1, held := fr.held.set x.toNat (gI fr.held x), dy := fr.dy.set x.toNat false }
  | .to r => { fr with a := r }
  | .iff x r => { fr with a := if gI fr.held x ≠ 0 then r else fr.a + 1 }
  | _ => fr
theorem held_at {O T : Cs} {r h : Nat} {fr : Fr} (F : FrAt O T r h fr) (x : Int) (hx : In x fr.held.length) : ixU O (.ref h) (.d (.int x)) T = some (.d (.int (gI fr.held x))) := by
  refine ixU_at F.gh ?_
  have : x.toNat < fr.held.length := by have := hx.1; have := hx.2; omega
  rw [atI_nat _ _ hx.1 (by simpa using hx.2), List.getElem?_map, List.getElem?_eq_getElem this]
  simp [gI, List.getD, this]
theorem worked_c (n : Nat) (O T : Cs) (op : Fin 3) (y z : Int) (hm : mulOk y z = true) : callP (cn G (n + 1)) O 5 [.d (.str (opS3 op)), .d (.int y), .d (.int z)] T = .ok (.d (.int (reck op y z))) T := by
  refine callP_r O T (T' := []) (Gv.eq (run_wp G5 rfl ?_))
  have g0 : (cn G n).glob 0 = some (.int 1000000000000000000) := rfl
  generalize cn G n = C at *
  match op with
  | 0 =>
    simp only [opS3, reck]
    unfold b5
    simp [hm, o_p_p, o_p_m, g0]
  | 1 =>
    simp only [opS3, reck]
    unfold b5
    simp [hm, o_m_p, o_m_m, g0]
  | 2 =>
    simp only [opS3, reck]
    unfold b5
    simp [hm, o_t_p, o_t_m, g0]
def HeldOk (l : List Int) : Prop := ∀ v ∈ l, 0 ≤ v ∧ v < 1000000000000000000
theorem gI_ok {l : List Int} (h : HeldOk l) (x : Int) (hx : In x l.length) : 0 ≤ gI l x ∧ gI l x < 1000000000000000000 := by
  have : x.toNat < l.length := by have := hx.1; have := hx.2; omega
  have e : gI l x = l[x.toNat] := by simp [gI, List.getD, this]
  rw [e]
  exact h _ (List.getElem_mem _)
theorem dorow_ok (n : Nat) {O T : Cs} {r h : Nat} {fr : Fr} (F : FrAt O T r h fr) (hH : HeldOk fr.held) (rw : Rw) (hr : PlainOk fr.held.length rw) :
    ∃ T', FrAt O T' r h (plainR rw fr) ∧ Only O r h T T' ∧ Y.run G (n + 2) O 6 [.ref r, .d rw.dd] T = .ok (.d .none) T' := by
  obtain ⟨T1, e1, F1, O1⟩ := F.due (fr.a + 1)
  have f0 := F.fld
  have c0 := F.cls
  have f1 := F1.fld
  have c1 := F1.cls
  have m1 := F1.nom
  simp only at f1
  have hh := fun x hx => held_at F1 x hx
  simp only at hh
  have hdy := fun x x0 => isdyed_ok n F1 x x0
  simp only at hdy
  have hput := fun x v b x0 x1 => put_ok n F1 x v b x0 x1
  simp only at hput
  have hwk := fun T op y z hm => worked_c n O T op y z hm
  have hCc : (cn G (n + 1)).call = Y.run G (n + 1) := rfl
  rw [← hCc] at hdy hput
  generalize ((maskN fr.dy : Nat) : Int) = M at f0 f1
  cases rw with
  | num x v =>
    obtain ⟨T2, F2, O2, e2⟩ := hput x v false hr.1 hr.2
    refine ⟨T2, F2, O1.trans O2, Gv.eq (run_wp G6 rfl ?_)⟩
    generalize cn G (n + 1) = C at *
    simp only [Rw.dd]
    unfold b6
    simp [x3, f0, c0, e1, q_number_number, f1, c1, m1, e2]
  | cp x y =>
    obtain ⟨T2, F2, O2, e2⟩ := hput x (gI fr.held y) (gB fr.dy y) hr.1.1 hr.1.2
    refine ⟨T2, F2, O1.trans O2, Gv.eq (run_wp G6 rfl ?_)⟩
    have hy := hh y hr.2
    have hd := hdy y hr.2.1
    clear hdy hput hCc
    generalize cn G (n + 1) = C at *
    simp only [gB] at e2
    generalize fr.dy.getD y.toNat false = bby at *
    simp only [Rw.dd]
    unfold b6
    simp [x3, f0, c0, e1, q_copy_number, q_copy_copy, f1, c1, m1, hy, hd, e2]
  | dz x op y z =>
    obtain ⟨T2, F2, O2, e2⟩ := hput x (reck op (gI fr.held y) (gI fr.held z)) (gB fr.dy y || gB fr.dy z) hr.1.1 hr.1.2
    refine ⟨T2, F2, O1.trans O2, Gv.eq (run_wp G6 rfl ?_)⟩
    have hy := hh y hr.2.1
    have hz := hh z hr.2.2
    have hd := hdy y hr.2.1.1
    have hd2 := hdy z hr.2.2.1
    have hb := gI_ok hH y hr.2.1
    have hw := hwk T1 op (gI fr.held y) (gI fr.held z) (mul_okL (by omega))
    clear hdy hput hCc
    generalize cn G (n + 1) = C at *
    simp only [gB] at e2
    generalize fr.dy.getD z.toNat false = bz at *
    generalize fr.dy.getD y.toNat false = bby at *
    simp only [Rw.dd]
    unfold b6
    cases bby with
    | true =>
      simp only [Bool.true_or] at e2
      simp [x5, f0, c0, e1, q_does_number, q_does_copy, q_does_does, f1, c1, m1, hy, hz, hw, hd, e2]
    | false =>
      simp only [Bool.false_or] at e2
      simp [x5, f0, c0, e1, q_does_number, q_does_copy, q_does_does, f1, c1, m1, hy, hz, hw, hd, hd2, e2]
  | dye x =>
    obtain ⟨T2, F2, O2, e2⟩ := hput x (gI fr.held x) true hr.1 hr.2
    refine ⟨T2, F2, O1.trans O2, Gv.eq (run_wp G6 rfl ?_)⟩
    have hy := hh x hr
    generalize cn G (n + 1) = C at *
    simp only [Rw.dd]
    unfold b6
    simp [x2, f0, c0, e1, q_dye_number, q_dye_copy, q_dye_does, q_dye_dye, f1, c1, m1, hy, e2]
  | wash x =>
    obtain ⟨T2, F2, O2, e2⟩ := hput x (gI fr.held x) false hr.1 hr.2
    refine ⟨T2, F2, O1.trans O2, Gv.eq (run_wp G6 rfl ?_)⟩
    have hy := hh x hr
    generalize cn G (n + 1) = C at *
    simp only [Rw.dd]
    unfold b6
    simp [x2, f0, c0, e1, q_wash_number, q_wash_copy, q_wash_does, q_wash_dye, q_wash_wash, f1, c1, m1, hy, e2]
  | to d =>
    obtain ⟨T2, e2, F2, O2⟩ := F1.due d
    refine ⟨T2, F2, O1.trans O2, Gv.eq (run_wp G6 rfl ?_)⟩
    generalize cn G (n + 1) = C at *
    simp only [Rw.dd]
    unfold b6
    simp [x2, f0, c0, e1, q_to_number, q_to_copy, q_to_does, q_to_dye, q_to_wash, q_to_to, f1, c1, m1, e2]
  | iff x d =>
    have hy := hh x hr
    by_cases hz : gI fr.held x = 0
    · refine ⟨T1, ?_, O1, Gv.eq (run_wp G6 rfl ?_)⟩
      · have : plainR (.iff x d) fr = { fr with a := fr.a + 1 } := by simp [plainR, hz]
        rw [this]
        exact F1
      · generalize cn G (n + 1) = C at *
        rw [hz] at hy
        simp only [Rw.dd]
        unfold b6
        simp [x3, f0, c0, e1, q_if_number, q_if_copy, q_if_does, q_if_dye, q_if_wash, q_if_to, f1, c1, m1, hy]
    · obtain ⟨T2, e2, F2, O2⟩ := F1.due d
      refine ⟨T2, ?_, O1.trans O2, Gv.eq (run_wp G6 rfl ?_)⟩
      · have : plainR (.iff x d) fr = { fr with a := d } := by simp [plainR, hz]
        rw [this]
        exact F2
      · generalize cn G (n + 1) = C at *
        simp only [Rw.dd]
        unfold b6
        simp [x3, f0, c0, e1, q_if_number, q_if_copy, q_if_does, q_if_dye, q_if_wash, q_if_to, f1, c1, m1, hy, hz, e2]
  | ret x => exact hr.elim
  | cl x g as => exact hr.elim
structure Fn where
  name : Str
  given : Nat
  vars : List Str
  rows : List Rw
def Fn.dd (f : Fn) : D := .tuple [.str f.name, .int f.given, .tuple (f.vars.map .str), .tuple (f.rows.map Rw.dd)]
/-- what is seen of a program -/
structure PgU (O T : Cs) (u : U) (pr : List Fn) : Prop where
  at_ : ∀ (g : Int) (f : Fn), 0 ≤ g → pr[g.toNat]? = some f → ixU O u (.d (.int g)) T = some (.d f.dd)
theorem fn_x (f : Fn) : L2.atI [PyData.str f.name, .int f.given, .tuple (f.vars.map .str), .tuple (f.rows.map Rw.dd)] 1 = some (.int f.given) ∧ L2.atI [PyData.str f.name, .int f.given, .tuple (f.vars.map .str), .tuple (f.rows.map Rw.dd)] 2 = some (.tuple (f.vars.map .str)) ∧ L2.atI [PyData.str f.name, .int f.given, .tuple (f.vars.map .str), .tuple (f.rows.map Rw.dd)] 3 = some (.tuple (f.rows.map Rw.dd)) := ⟨rfl, rfl, rfl⟩
theorem init_ok (n : Nat) (O T : Cs) (r h : Nat) (hr : r = O.length + T.length) (g d : Int) : Y.run G (n + 1) O 1 [.ref r, .d (.int g), .ref h, .d (.int d)] (T ++ [.ins 0 []]) = .ok (.d .none) (T ++ [.ins 0 (fr4 (.d (.int g)) (.d (.int 0)) (.ref h) (.d (.int d)))]) := by
  refine Gv.eq (run_wp G1 rfl ?_)
  have hg : ∀ fs, getC O (T ++ [.ins 0 fs]) r = some (.ins 0 fs) := fun fs => by
    rw [hr, getC_k]
    simp
  have hcl : ∀ fs, clsOf O (T ++ [.ins 0 fs]) (.ref r) = some 0 := fun fs => by
    unfold clsOf
    simp only [hg]
  have hset : ∀ (fs : List (Str × U)) (m : Str) (v : U), fs.length < 100 → setfU O (.ref r) m v (T ++ [.ins 0 fs]) = .ok (.d .none) (T ++ [.ins 0 (putFU m v fs)]) := by
    intro fs m v hl
    unfold setfU
    simp only [hg]
    rw [if_pos hl]
    unfold setC
    rw [if_pos ⟨by omega, by rw [hr]; simp⟩, hr, show O.length + T.length - O.length = T.length by omega, List.set_append_right (h := Nat.le_refl _)]
    simp
  have hl : ∀ (fs : List (Str × U)) (m : Str) (v : U), (putFU m v fs).length ≤ fs.length + 1 := by
    intro fs m v
    induction fs with
    | nil => simp [putFU]
    | cons a l ih =>
      obtain ⟨g, x⟩ := a
      unfold putFU
      split
      · simp
      · simp
        exact ih
  have e1 := hset [] "function" (.d (.int g)) (by decide)
  have e2 := hset _ "due" (.d (.int 0)) (Nat.lt_of_le_of_lt (hl [] "function" (.d (.int g))) (by decide))
  have q2 := Nat.le_trans (hl (putFU "function" (.d (.int g)) []) "due" (.d (.int 0))) (Nat.add_le_add_right (hl [] "function" (.d (.int g))) 1)
  have e3 := hset _ "held" (.ref h) (Nat.lt_of_le_of_lt q2 (by decide))
  have q3 := Nat.le_trans (hl _ "held" (.ref h)) (Nat.add_le_add_right q2 1)
  have e4 := hset _ "dyes" (.d (.int d)) (Nat.lt_of_le_of_lt q3 (by decide))
  rw [pi] at e4
  generalize cn G n = C
  unfold b1
  simp [e1, e2, e3, e4, hcl]
end Lk73

set_option Elab.async false
set_option linter.all false
set_option maxRecDepth 100000
set_option maxHeartbeats 4000000
namespace Lk73
open PySem Y
theorem newframe_w {C : Cn} {O T T1 T2 T3 : Cs} (u gv : U) (f : Fn) (g M nv ng : Int) (rep : D) (hp0 : ixU O u (.d (.int g)) T = some (.d (.tuple [.str f.name, .int f.given, .tuple (f.vars.map .str), .tuple (f.rows.map Rw.dd)])))
    (hlv : lenB O T (.d (.tuple (f.vars.map .str))) = .ok (.d (.int nv)) T) (hlg : lenB O T gv = .ok (.d (.int ng)) T)
    (hlst : listB O true T gv = .ok (.ref (O.length + T.length)) T1)
    (hrep : binU O false .mul (.d (.list [.int 0])) (.d (.int (nv - ng))) T1 = .ok (.d rep) T1)
    (hadd : binU O true .add (.ref (O.length + T.length)) (.d rep) T1 = .ok (.ref (O.length + T.length + 1)) T2)
    (hl2 : T2.length = T.length + 2)
    (hi : C.make O 1 [.ref (O.length + T.length + 2), .d (.int g), .ref (O.length + T.length + 1), .d (.int M)] (T2 ++ [.ins 0 []]) = .ok (.d .none) T3) : Wp (denB C O b4 [some u, some (.d (.int g)), some gv, some (.d (.int M)), none] T) (fun _ _ => False) (fun _ _ => False) (fun _ _ => False) (fun v T' => v = .ref (O.length + T.length + 2) ∧ T' = T3) := by
  have hx := (fn_x f).2.1
  generalize [PyData.str f.name, .int f.given, .tuple (f.vars.map .str), .tuple (f.rows.map Rw.dd)] = fl at *
  generalize PyData.tuple (f.vars.map .str) = vl at *
  have e2 : O.length + T2.length = O.length + T.length + 2 := by omega
  generalize O.length + T.length + 1 = r1 at *
  generalize O.length + T.length + 2 = r2 at *
  unfold b4
  simp [hp0, hx, hlv, hlg, hlst, hrep, hadd, e2, hi, mkL]
theorem newframe_ok (n : Nat) (O T : Cs) (u : U) (pr : List Fn) (hp : PgU O T u pr) (g : Int) (g0 : 0 ≤ g) (f : Fn) (hf : pr[g.toNat]? = some f) (vs : List Int) (dy : List Bool) (hl : vs.length ≤ f.vars.length) (h4 : f.vars.length ≤ 4) (hd : dy.length = f.vars.length) :
    ∃ T', FrAt O T' (O.length + T.length + 2) (O.length + T.length + 1) ⟨g, 0, vs ++ List.replicate (f.vars.length - vs.length) 0, dy⟩ ∧ T'.length = T.length + 3 ∧ (∀ i, i < O.length + T.length → getC O T' i = getC O T i) ∧ Y.run G (n + 2) O 4 [u, .d (.int g), .d (.list (vs.map .int)), .d (.int (maskN dy : Nat))] T = .ok (.ref (O.length + T.length + 2)) T' := by
  obtain ⟨T2, hT2⟩ : ∃ T2 : Cs, T2 = (T ++ [Cell.lst (vs.map .int)]) ++ [.lst ((vs ++ List.replicate (f.vars.length - vs.length) 0).map .int)] := ⟨_, rfl⟩
  have hl2 : T2.length = T.length + 2 := by rw [hT2]; simp
  have hget : ∀ i, i < O.length + T.length → ∀ S, getC O ((T ++ S) : Cs) i = getC O T i := fun i hi S => by
    rw [getC_eq, getC_eq, ← List.append_assoc, List.getElem?_append_left (by simpa using hi)]
  have hi := init_ok n O T2 (O.length + T.length + 2) (O.length + T.length + 1) (by omega) g ((maskN dy : Nat) : Int)
  have hh : getC O (T2 ++ [.ins 0 (fr4 (.d (.int g)) (.d (.int 0)) (.ref (O.length + T.length + 1)) (.d (.int (maskN dy : Nat))))]) (O.length + T.length + 1) = some (.lst ((vs ++ List.replicate (f.vars.length - vs.length) 0).map .int)) := by
    rw [show O.length + T.length + 1 = O.length + (T.length + 1) by omega, getC_k, List.getElem?_append_left (by omega), hT2, List.getElem?_append_right (by simp)]
    simp
  have hg' : getC O (T2 ++ [.ins 0 (fr4 (.d (.int g)) (.d (.int 0)) (.ref (O.length + T.length + 1)) (.d (.int (maskN dy : Nat))))]) (O.length + T.length + 2) = some (.ins 0 (fr4 (.d (.int g)) (.d (.int 0)) (.ref (O.length + T.length + 1)) (.d (.int (maskN dy : Nat))))) := by
    rw [show O.length + T.length + 2 = O.length + (T2.length) by omega, getC_k]
    simp
  refine ⟨_, ⟨by omega, by omega, by omega, hg', hh, by simp [hd]; omega, by show dy.length ≤ 4; omega⟩, by simp [hl2], fun i hi => by
    rw [hT2]
    simp only [List.append_assoc]
    exact hget i hi _, Gv.eq (run_wp G4 rfl ?_)⟩
  have hp0 := hp.at_ g f g0 hf
  have hlv : lenB O T (.d (.tuple (f.vars.map .str))) = .ok (.d (.int f.vars.length)) T := by rw [lenB_T]; simp
  have hlg : lenB O T (.d (.list (vs.map .int))) = .ok (.d (.int vs.length)) T := by rw [lenB_L]; simp
  have hrep : binU O false .mul (.d (.list [.int 0])) (.d (.int ((f.vars.length : Int) - vs.length))) (T ++ [Cell.lst (vs.map .int)]) = .ok (.d (.list ((List.replicate (f.vars.length - vs.length) (0 : Int)).map .int))) (T ++ [Cell.lst (vs.map .int)]) := by
    have hk : ((f.vars.length : Int) - vs.length).toNat = f.vars.length - vs.length := by omega
    show (if (decide (0 ≤ (f.vars.length : Int) - vs.length) && decide ((f.vars.length : Int) - vs.length ≤ 1000000) && Y.sizeOk (([U.d (.int 0)] : List U).length * ((f.vars.length : Int) - vs.length).toNat)) = true then mkL O false (List.replicate ((f.vars.length : Int) - vs.length).toNat [U.d (.int 0)]).flatten (T ++ [Cell.lst (vs.map .int)]) else .fail) = _
    rw [if_pos (by simp [Y.sizeOk]; omega), hk, List.flatten_replicate_singleton]
    have e : List.replicate (f.vars.length - vs.length) (U.d (.int 0)) = ((List.replicate (f.vars.length - vs.length) (0 : Int)).map PyData.int).map .d := by simp
    rw [e, mkL_map]
  have hadd : binU O true .add (.ref (O.length + T.length)) (.d (.list ((List.replicate (f.vars.length - vs.length) (0 : Int)).map .int))) (T ++ [Cell.lst (vs.map .int)]) = .ok (.ref (O.length + T.length + 1)) T2 := by
    have hgl : getC O (T ++ [Cell.lst (vs.map .int)]) (O.length + T.length) = some (.lst (vs.map .int)) := by
      rw [getC_k]
      simp
    show (match seqL O (T ++ [Cell.lst (vs.map .int)]) (.ref (O.length + T.length)), seqL O (T ++ [Cell.lst (vs.map .int)]) (.d (.list ((List.replicate (f.vars.length - vs.length) (0 : Int)).map .int))) with
      | some us, some ws => if Y.sizeOk (us.length + ws.length) then mkL O true (us ++ ws) (T ++ [Cell.lst (vs.map .int)]) else .fail
      | none, none => match seqT (.ref (O.length + T.length)), seqT (.d (.list ((List.replicate (f.vars.length - vs.length) (0 : Int)).map .int))) with
        | some us, some ws => if Y.sizeOk (us.length + ws.length) then .ok (mkT (us ++ ws)) (T ++ [Cell.lst (vs.map .int)]) else .fail
        | _, _ => .fail
      | _, _ => .fail) = _
    rw [seqL_ref, hgl, seqL_d]
    simp only
    rw [if_pos (by simp [Y.sizeOk]; omega), ← List.map_append, ← List.map_append, mkL_t, cellOf_map, hT2]
    simp
    omega
  have hlst : listB O true T (.d (.list (vs.map .int))) = .ok (.ref (O.length + T.length)) (T ++ [Cell.lst (vs.map .int)]) := by
    rw [listB_L, mkL_t, cellOf_map]
  have hCm : (cn G (n + 1)).make = Y.run G (n + 1) := rfl
  rw [← hCm] at hi
  exact wp_mono2' (newframe_w u _ f g _ _ _ _ hp0 hlv hlg hlst hrep hadd hl2 hi)
theorem FrAt.mono {O T T' : Cs} {r h : Nat} {fr : Fr} (F : FrAt O T r h fr) (hr : getC O T' r = getC O T r) (hh : getC O T' h = getC O T h) : FrAt O T' r h fr := ⟨F.lo, F.lh, F.ne, by rw [hr]; exact F.gi, by rw [hh]; exact F.gh, F.len, F.le⟩
theorem mask_snoc (l : List Bool) (b : Bool) : maskN (l ++ [b]) = maskN l + b.toNat * 2 ^ l.length := by
  induction l with
  | nil => simp [maskN]
  | cons a l ih =>
    simp only [List.cons_append, maskN, ih, List.length_cons, Nat.pow_succ]
    have : 2 * (b.toNat * 2 ^ l.length) = b.toNat * (2 ^ l.length * 2) := by
      rw [Nat.mul_comm (2 ^ l.length) 2, Nat.mul_left_comm]
    omega
theorem mask_ltP (l : List Bool) : maskN l < 2 ^ l.length := by
  apply Nat.lt_pow_two_of_testBit
  intro i hi
  rw [mask_bit]
  simp [List.getD, List.getElem?_eq_none (by omega : l.length ≤ i)]
theorem or_snoc (l : List Bool) (b : Bool) : Builtin.bitOr ((maskN l : Nat) : Int) ((if b = true then 1 else 0) * 2 ^ l.length) = ((maskN (l ++ [b]) : Nat) : Int) := by
  have e : ((if b = true then (1 : Int) else 0) * 2 ^ l.length) = ((b.toNat * 2 ^ l.length : Nat) : Int) := by
    cases b <;> simp
  rw [e, bitOr_n]
  congr 1
  apply Nat.eq_of_testBit_eq
  intro i
  rw [Nat.testBit_or, mask_bit, mask_bit]
  cases b with
  | false =>
    simp
    by_cases h : i < l.length
    · simp [List.getD, List.getElem?_append_left h]
    · rw [List.getElem?_append_right (by omega), List.getElem?_eq_none (by omega : l.length ≤ i)]
      cases hh : i - l.length <;> simp
  | true =>
    simp only [Bool.toNat_true, Nat.one_mul, Nat.testBit_two_pow]
    by_cases h : i < l.length
    · have : ¬ l.length = i := by omega
      simp [List.getD, List.getElem?_append_left h, this]
    · by_cases h2 : l.length = i
      · subst h2
        simp [List.getD]
      · have : 1 ≤ i - l.length := by omega
        simp [List.getD, h2, List.getElem?_append_right (by omega : l.length ≤ i), List.getElem?_eq_none (by omega : l.length ≤ i), List.getElem?_eq_none (by simpa using this : [true].length ≤ i - l.length)]
theorem mask_pad (l : List Bool) (k : Nat) : maskN (l ++ List.replicate k false) = maskN l := by
  apply Nat.eq_of_testBit_eq
  intro i
  rw [mask_bit, mask_bit]
  by_cases h : i < l.length
  · simp [List.getD, List.getElem?_append_left h]
  · simp [List.getD, List.getElem?_append_right (by omega : l.length ≤ i), List.getElem?_eq_none (by omega : l.length ≤ i), List.getElem?_replicate]
    split <;> rfl
def padI (v : Nat) (l : List Int) : List Int := l ++ List.replicate (v - l.length) 0
def padB (v : Nat) (l : List Bool) : List Bool := l ++ List.replicate (v - l.length) false
theorem padI_len {v : Nat} {l : List Int} (h : l.length ≤ v) : (padI v l).length = v := by simp [padI]; omega
theorem padB_len {v : Nat} {l : List Bool} (h : l.length ≤ v) : (padB v l).length = v := by simp [padB]; omega
/-- the frame of a call -/
def calledR (g : Int) (v : Nat) (as : List Int) (fr : Fr) : Fr := ⟨g, 0, padI v (as.map (gI fr.held)), padB v (as.map (gB fr.dy))⟩
end Lk73

set_option Elab.async false
set_option linter.all false
set_option maxRecDepth 100000
set_option maxHeartbeats 4000000
namespace Lk73
open PySem Y
section
variable {C : Cn} {O T T' : Cs} {ρ : Rho} {nx bk ct : Rho → Cs → Prop} {rt : U → Cs → Prop} {b : CB} {u : U}
theorem st_asg {k : Nat} {e : CE} (he : den C O ρ e T = .ok u T') (h : Wp (denB C O b (ρ.set k (some u)) T') nx bk ct rt) : Wp (denB C O (.cons (.asg (.nm k) e) b) ρ T) nx bk ct rt := by
  rw [denB_nx (ρ' := ρ.set k (some u)) (T' := T') (by rw [denS_asg, he, F.of_ok, asgT_nm])]
  exact h
theorem st_asgT {g : Tg} {e : CE} {ρ' : Rho} (he : den C O ρ e T = .ok u T') (hg : asgT O T' g u ρ = some ρ') (h : Wp (denB C O b ρ' T') nx bk ct rt) : Wp (denB C O (.cons (.asg g e) b) ρ T) nx bk ct rt := by
  rw [denB_nx (ρ' := ρ') (T' := T') (by rw [denS_asg, he, F.of_ok, hg])]
  exact h
theorem st_ex {e : CE} (he : den C O ρ e T = .ok u T') (h : Wp (denB C O b ρ T') nx bk ct rt) : Wp (denB C O (.cons (.ex e) b) ρ T) nx bk ct rt := by
  rw [denB_nx (ρ' := ρ) (T' := T') (by rw [denS_ex, he, F.of_ok])]
  exact h
theorem st_ret {e : CE} (he : den C O ρ e T = .ok u T') (h : rt u T') : Wp (denB C O (.cons (.ret e) b) ρ T) nx bk ct rt := by
  rw [denB_rt (u := u) (T' := T') (by rw [denS_ret, he, F.of_ok])]
  exact h
theorem st_nx {s : CS} {ρ' : Rho} (he : denS C O s ρ T = .nx ρ' T') (h : Wp (denB C O b ρ' T') nx bk ct rt) : Wp (denB C O (.cons s b) ρ T) nx bk ct rt := by
  rw [denB_nx he]
  exact h
theorem st_ite {t : CE} {a c : CB} (v : Bool) (he : den C O ρ t T = .ok (.d (.bool v)) T') (h : Wp (denB C O (if v = true then a else c) ρ T') (fun ρ T => Wp (denB C O b ρ T) nx bk ct rt) bk ct rt) : Wp (denB C O (.cons (.ite t a c) b) ρ T) nx bk ct rt := by
  rw [wp_cons, denS_ite, he, F.of_ok]
  cases v with
  | true => exact h
  | false => exact h
theorem st_nil (h : nx ρ T) : Wp (denB C O .nil ρ T) nx bk ct rt := by
  rw [denB_nil]
  exact h
theorem st_for {g : Tg} {it : IT} {c : CB} (its : Its) (T0 : Cs) (I : Nat → Rho → Cs → Prop) (e : denI C O ρ it T = .ok its T0) (h0 : I 0 ρ T0) (hw : ∀ i ρ T, I i ρ T → sameW O its.t T its.w = true)
    (h : ∀ i u, its.us[i]? = some u → ∀ ρ T, I i ρ T → ∃ ρ1, asgT O T g u ρ = some ρ1 ∧ Wp (denB C O c ρ1 T) (I (i + 1)) (fun ρ T => Wp (denB C O b ρ T) nx bk ct rt) (I (i + 1)) rt) (hx : ∀ ρ T, I its.us.length ρ T → Wp (denB C O b ρ T) nx bk ct rt) : Wp (denB C O (.cons (.for_ g it c) b) ρ T) nx bk ct rt := by
  rw [wp_cons]
  exact wp_for its T0 I e h0 hw h hx
end
theorem rngOk_small {i j : Int} (h : 0 ≤ i ∧ i ≤ 1000000) (h2 : -1 ≤ j ∧ j ≤ 1000000) : rngOk i j = true := by
  unfold rngOk
  simp
  omega
theorem rng1_ok {C : Cn} {O T : Cs} {ρ : Rho} {a : CE} {n : Nat} (he : den C O ρ a T = .ok (.d (.int n)) T) (h : n ≤ 1000000) : denI C O ρ (.rng1 a) T = .ok ⟨rngU 0 n 1, none, T⟩ T := by
  rw [denI_rng1, he, R.bind_ok]
  simp only
  rw [if_pos (rngOk_small (by omega) (by omega))]
  simp
theorem rng2_ok {C : Cn} {O T : Cs} {ρ : Rho} {a b : CE} {i j : Int} (ha : den C O ρ a T = .ok (.d (.int i)) T) (hb : den C O ρ b T = .ok (.d (.int j)) T) (h : 0 ≤ i ∧ i ≤ 1000000) (h2 : -1 ≤ j ∧ j ≤ 1000000) : denI C O ρ (.rng2 a b) T = .ok ⟨rngU i (j - i).toNat 1, none, T⟩ T := by
  rw [denI_rng2, ha, R.bind_ok, hb, R.bind_ok]
  simp only
  rw [if_pos (rngOk_small h h2)]
def b7L : CB := (.cons (.asg (.nm 3) (.bin false .bor (.v 3) (.bin false .shl (.bi false .int (.cons (.mcall 0 3 "is_dyed" (.v 1) (.cons (.ix (.ix (.v 2) (.c (.int 3))) (.v 4)) .nil)) .nil)) (.v 4)))) .nil)
def b7R : CB := (.cons (.ret (.call true 4 (.cons (.v 0) (.cons (.ix (.v 2) (.c (.int 2))) (.cons (.comp false (.ix (.fld 0 (.v 1) "held") (.v 5)) (.nm 5) (.tup (.ix (.v 2) (.c (.int 3)))) (.c (.bool true)) [5]) (.cons (.v 3) .nil)))) [])) .nil)
theorem b7_eq : b7 = (.cons (.asg (.nm 3) (.c (.int 0))) (.cons (.for_ (.nm 4) (.rng1 (.bi false .len (.cons (.ix (.v 2) (.c (.int 3))) .nil))) b7L) b7R)) := rfl
theorem called_w {C : Cn} {O T : Cs} (u : U) (r h : Nat) (x g : Int) (as : List Int) (fdy : Int → Bool) (hv : Int → Int) (M : Nat → Int) (r' : Nat) (T' : Cs) (la : as.length ≤ 4)
    (c0 : ∀ S, clsOf O (T ++ S) (.ref r) = some 0) (f3 : ∀ S, fldU O (.ref r) "held" (T ++ S) = some (.ref h)) (nm : fldU O (.ref r) "is_dyed" T = none)
    (hdy : ∀ x, x ∈ as → C.call O 3 [.ref r, .d (.int x)] T = .ok (.d (.bool (fdy x))) T)
    (M0 : M 0 = 0) (hM : ∀ (i : Nat) x, as[i]? = some x → Builtin.bitOr (M i) ((if fdy x = true then 1 else 0) * 2 ^ i) = M (i + 1))
    (hh : ∀ S x, x ∈ as → ixU O (.ref h) (.d (.int x)) (T ++ S) = some (.d (.int (hv x))))
    (L : List D) (hL : L = (as.map hv).map .int) (hnew : C.call O 4 [u, .d (.int g), .d (.list L), .d (.int (M as.length))] T = .ok (.ref r') T') : Wp (denB C O b7 [some u, some (.ref r), some (.d (Rw.cl x g as).dd), none, none, none] T) (fun _ _ => False) (fun _ _ => False) (fun _ _ => False) (fun v T'' => v = .ref r' ∧ T'' = T') := by
  have c1 : clsOf O T (.ref r) = some 0 := by simpa using c0 []
  simp only [Rw.dd]
  have x4' := x4 (.str "call") (.int x) (.int g) (.tuple (as.map .int))
  generalize hrw : [PyData.str "call", .int x, .int g, .tuple (as.map .int)] = rowl at *
  clear hrw
  rw [b7_eq]
  refine st_asg (den_c _ _ _ _ _) ?_
  refine st_for ⟨rngU 0 as.length 1, none, T⟩ T (fun i ρ T1 => T1 = T ∧ ∃ w, ρ = [some u, some (.ref r), some (.d (.tuple rowl)), some (.d (.int (M i))), w, none]) ?_ ⟨rfl, none, ?_⟩ (fun _ _ _ _ => rfl) ?_ ?_
  · exact rng1_ok (by simp [x4']) (by omega)
  · rw [M0]
    rfl
  · rintro i w hw ρ T1 ⟨rfl, w', rfl⟩
    obtain ⟨hi, rfl⟩ := rngU_get hw
    have hi' : as[i]? = some as[i] := List.getElem?_eq_getElem hi
    have hmem : as[i] ∈ as := List.getElem_mem hi
    refine ⟨_, asgT_nm .., ?_⟩
    have hat : L2.atI (as.map PyData.int) (0 + (i : Int) * 1) = some (.int as[i]) := by
      rw [show (0 + (i : Int) * 1) = (i : Int) by omega, atI_nat _ _ (by omega) (by simp; omega)]
      simp [hi']
    have hd := hdy _ hmem
    have hm := hM i _ hi'
    have ei : (0 + (i : Int) * 1).toNat = i := by omega
    have hm : Builtin.bitOr (M i) ((if fdy as[i] = true then 1 else 0) * 2 ^ (0 + (i : Int) * 1).toNat) = M (i + 1) := by rw [ei]; exact hm
    have i0 : 0 ≤ (0 + (i : Int) * 1) ∧ (0 + (i : Int) * 1) ≤ 1000 := by omega
    clear ei
    generalize hii : (0 + (i : Int) * 1) = ii at *
    generalize M (i + 1) = Mi1 at *
    generalize M i = Mi at *
    unfold b7L
    refine st_asg (u := .d (.int Mi1)) (T' := T1) ?_ (st_nil ⟨rfl, some (.d (.int ii)), rfl⟩)
    rw [← hm]
    cases hfd : fdy as[i] <;> rw [hfd] at hd <;> simp [x4', hat, c1, nm, hd, i0]
  · rintro ρ T1 ⟨rfl, w', rfl⟩
    simp only [rngU_len]
    unfold b7R
    refine st_ret (u := .ref r') (T' := T') ?_ ⟨rfl, rfl⟩
    have hc : den C O [some u, some (.ref r), some (.d (.tuple rowl)), some (.d (.int (M as.length))), w', none] (.comp false (.ix (.fld 0 (.v 1) "held") (.v 5)) (.nm 5) (.tup (.ix (.v 2) (.c (.int 3)))) (.c (.bool true)) [5]) T1 = .ok (.d (.list L)) T1 := by
      refine comp_m (us := (as.map PyData.int).map .d) (w := none) (tt := T1) ?_ (fun _ => rfl) (by rw [hL]; simp) ?_ (by simp; omega)
      · simp [x4']
      · intro i w d h1 h2 acc
        rw [hL] at h2
        rw [List.getElem?_map, List.getElem?_map] at h1 h2
        cases h3 : as[i]? with
        | none => simp [h3] at h1
        | some y =>
          have hy := List.mem_of_getElem? h3
          simp [h3] at h1
          simp [h3] at h2
          subst h1
          subst h2
          have := hh [.lstU acc] y hy
          have c2 := c0 [.lstU acc]
          have f2 := f3 [.lstU acc]
          exact ⟨_, asgT_nm .., by simp, by simp [wipeR, c2, f2, this]⟩
    simp [hc, x4', hnew]
theorem FrAt.app {O T : Cs} {r h : Nat} {fr : Fr} (F : FrAt O T r h fr) (S : Cs) : FrAt O (T ++ S) r h fr := ⟨F.lo, F.lh, F.ne, getC_app F.gi, getC_app F.gh, F.len, F.le⟩
theorem called_ok (n : Nat) {O T : Cs} {r h : Nat} {fr : Fr} (F : FrAt O T r h fr) (u : U) (pr : List Fn) (hp : PgU O T u pr) (x g : Int) (g0 : 0 ≤ g) (f : Fn) (hf : pr[g.toNat]? = some f) (as : List Int) (ha : ∀ y ∈ as, In y fr.held.length) (la : as.length ≤ f.vars.length) (h4 : f.vars.length ≤ 4) :
    ∃ T', FrAt O T' (O.length + T.length + 2) (O.length + T.length + 1) (calledR g f.vars.length as fr) ∧ T'.length = T.length + 3 ∧ (∀ i, i < O.length + T.length → getC O T' i = getC O T i) ∧ Y.run G (n + 3) O 7 [u, .ref r, .d (Rw.cl x g as).dd] T = .ok (.ref (O.length + T.length + 2)) T' := by
  obtain ⟨T', F', hl', hg', e⟩ := newframe_ok n O T u pr hp g g0 f hf (as.map (gI fr.held)) (padB f.vars.length (as.map (gB fr.dy))) (by simpa using la) h4 (padB_len (by simpa using la))
  refine ⟨T', ?_, hl', hg', Gv.eq (run_wp G7 rfl ?_)⟩
  · have e2 : calledR g f.vars.length as fr = ⟨g, 0, as.map (gI fr.held) ++ List.replicate (f.vars.length - (as.map (gI fr.held)).length) 0, padB f.vars.length (as.map (gB fr.dy))⟩ := rfl
    rw [e2]
    exact F'
  · have hCc : (cn G (n + 2)).call = Y.run G (n + 2) := rfl
    rw [← hCc] at e
    refine wp_mono2' (called_w u r h x g as (gB fr.dy) (gI fr.held) (fun i => ((maskN ((as.map (gB fr.dy)).take i) : Nat) : Int)) _ T' (by omega) (fun S => (F.app S).cls) (fun S => (F.app S).fld.2.2.1) F.nom.2 (fun y hy => ?_) rfl ?_ (fun S y hy => held_at (F.app S) y (ha y hy)) _ rfl ?_)
    · rw [hCc]
      exact isdyed_ok (n + 1) F y (ha y hy).1
    · intro i y hi
      have hlt := (List.getElem?_eq_some_iff.mp hi).1
      have e3 : (as.map (gB fr.dy)).take (i + 1) = (as.map (gB fr.dy)).take i ++ [gB fr.dy y] := by
        rw [List.take_add_one, List.getElem?_map, hi]
        rfl
      have e4 := or_snoc ((as.map (gB fr.dy)).take i) (gB fr.dy y)
      have e5 : ((as.map (gB fr.dy)).take i).length = i := by simp; omega
      rw [e5] at e4
      rw [e3]
      exact e4
    · have e6 : (as.map (gB fr.dy)).take as.length = as.map (gB fr.dy) := List.take_of_length_le (by simp)
      have e7 : maskN (padB f.vars.length (as.map (gB fr.dy))) = maskN (as.map (gB fr.dy)) := mask_pad _ _
      rw [e7] at e
      show (cn G (n + 2)).call O 4 [u, .d (.int g), .d (.list ((as.map (gI fr.held)).map .int)), .d (.int ((maskN ((as.map (gB fr.dy)).take as.length) : Nat) : Int))] T = _
      rw [e6]
      exact e
end Lk73

set_option Elab.async false
set_option linter.all false
set_option maxRecDepth 100000
set_option maxHeartbeats 4000000
namespace Lk73
open PySem Y
def Sep (x y : Nat × Nat × Fr) : Prop := x.1 ≠ y.1 ∧ x.1 ≠ y.2.1 ∧ x.2.1 ≠ y.1 ∧ x.2.1 ≠ y.2.1
def Kept (O : Cs) (n0 : Nat) (T T' : Cs) : Prop := ∀ i, i < n0 → getC O T' i = getC O T i
theorem Kept.refl (O : Cs) (n0 : Nat) (T : Cs) : Kept O n0 T T := fun _ _ => rfl
theorem Kept.trans {O : Cs} {n0 : Nat} {T T' T'' : Cs} (a : Kept O n0 T T') (b : Kept O n0 T' T'') : Kept O n0 T T'' := fun i h => by rw [b i h, a i h]
structure StAt (O T : Cs) (n0 kF kS : Nat) (fs : List (Nat × Nat × Fr)) (sts : List D) : Prop where
  on : O.length ≤ n0
  gF : getC O T kF = some (.lstU (fs.map fun x => .ref x.1))
  gS : getC O T kS = some (.lst sts)
  fk : kF ≠ kS
  bF : n0 ≤ kF
  bS : n0 ≤ kS
  fr : ∀ x ∈ fs, FrAt O T x.1 x.2.1 x.2.2
  fb : ∀ x ∈ fs, n0 ≤ x.1 ∧ n0 ≤ x.2.1 ∧ x.1 ≠ kF ∧ x.1 ≠ kS ∧ x.2.1 ≠ kF ∧ x.2.1 ≠ kS
  sep : fs.Pairwise Sep
section
variable {O T : Cs} {n0 kF kS : Nat} {fs : List (Nat × Nat × Fr)} {sts : List D}
theorem StAt.app (A : StAt O T n0 kF kS fs sts) (x : D) (hs : sts.length ≤ 1000000) : ∃ T', appU O kS (.d x) T = .ok (.d .none) T' ∧ StAt O T' n0 kF kS fs (sts ++ [x]) ∧ Kept O n0 T T' ∧ ∀ i, i ≠ kS → getC O T' i = getC O T i := by
  have h1 : O.length ≤ kS := Nat.le_trans A.on A.bS
  have hg : ∀ i, i ≠ kS → getC O (T.set (kS - O.length) (.lst (sts ++ [x]))) i = getC O T i := fun i hi => get_set_ne h1 hi
  refine ⟨T.set (kS - O.length) (.lst (sts ++ [x])), ?_, ⟨A.on, by rw [hg _ A.fk]; exact A.gF, set_get A.gS h1, A.fk, A.bF, A.bS, fun y hy => (A.fr y hy).mono (hg _ (A.fb y hy).2.2.2.1) (hg _ (A.fb y hy).2.2.2.2.2), A.fb, A.sep⟩, fun i hi => hg i (by have := A.bS; omega), hg⟩
  rw [appU_eq, A.gS]
  simp only
  rw [if_pos (by simp [Y.sizeOk, hs])]
  unfold setC
  rw [if_pos ⟨h1, own_lt A.gS⟩]
theorem StAt.push (A : StAt O T n0 kF kS fs sts) (z : Nat × Nat × Fr) (F : FrAt O T z.1 z.2.1 z.2.2) (hb : n0 ≤ z.1 ∧ n0 ≤ z.2.1 ∧ z.1 ≠ kF ∧ z.1 ≠ kS ∧ z.2.1 ≠ kF ∧ z.2.1 ≠ kS) (hp : ∀ x ∈ fs, Sep x z) (hs : fs.length ≤ 1000000) : ∃ T', appU O kF (.ref z.1) T = .ok (.d .none) T' ∧ StAt O T' n0 kF kS (fs ++ [z]) sts ∧ Kept O n0 T T' := by
  have h1 : O.length ≤ kF := Nat.le_trans A.on A.bF
  have hg : ∀ i, i ≠ kF → getC O (T.set (kF - O.length) (.lstU ((fs ++ [z]).map fun x => U.ref x.1))) i = getC O T i := fun i hi => get_set_ne h1 hi
  have hall : ∀ y ∈ fs ++ [z], n0 ≤ y.1 ∧ n0 ≤ y.2.1 ∧ y.1 ≠ kF ∧ y.1 ≠ kS ∧ y.2.1 ≠ kF ∧ y.2.1 ≠ kS := by
    intro y hy
    rcases List.mem_append.mp hy with hy | hy
    · exact A.fb y hy
    · rw [List.mem_singleton] at hy
      subst hy
      exact hb
  refine ⟨T.set (kF - O.length) (.lstU ((fs ++ [z]).map fun x => .ref x.1)), ?_, ⟨A.on, set_get A.gF h1, by rw [hg _ (Ne.symm A.fk)]; exact A.gS, A.fk, A.bF, A.bS, fun y hy => ?_, hall, ?_⟩, fun i hi => hg i (by have := A.bF; omega)⟩
  · rw [appU_eq, A.gF]
    simp only
    rw [if_pos (by simp [Y.sizeOk, hs])]
    unfold setC
    rw [if_pos ⟨h1, own_lt A.gF⟩]
    simp
  · have hb' := hall y hy
    refine FrAt.mono ?_ (hg _ hb'.2.2.1) (hg _ hb'.2.2.2.2.1)
    rcases List.mem_append.mp hy with hy | hy
    · exact A.fr y hy
    · rw [List.mem_singleton] at hy
      subst hy
      exact F
  · rw [List.pairwise_append]
    refine ⟨A.sep, by simp, fun x hx y hy => ?_⟩
    rw [List.mem_singleton] at hy
    subst hy
    exact hp x hx
theorem StAt.pop {z : Nat × Nat × Fr} (A : StAt O T n0 kF kS (fs ++ [z]) sts) : ∃ T', mtU O false .pop (.ref kF) [] T = .ok (.ref z.1) T' ∧ StAt O T' n0 kF kS fs sts ∧ FrAt O T' z.1 z.2.1 z.2.2 ∧ Kept O n0 T T' := by
  have h1 : O.length ≤ kF := Nat.le_trans A.on A.bF
  have hg : ∀ i, i ≠ kF → getC O (T.set (kF - O.length) (.lstU (fs.map fun x => U.ref x.1))) i = getC O T i := fun i hi => get_set_ne h1 hi
  have hm : ∀ y ∈ fs, y ∈ fs ++ [z] := fun y hy => List.mem_append_left _ hy
  have hz : z ∈ fs ++ [z] := by simp
  refine ⟨T.set (kF - O.length) (.lstU (fs.map fun x => .ref x.1)), ?_, ⟨A.on, set_get A.gF h1, by rw [hg _ (Ne.symm A.fk)]; exact A.gS, A.fk, A.bF, A.bS, fun y hy => (A.fr y (hm y hy)).mono (hg _ (A.fb y (hm y hy)).2.2.1) (hg _ (A.fb y (hm y hy)).2.2.2.2.1), fun y hy => A.fb y (hm y hy), (List.pairwise_append.mp A.sep).1⟩, (A.fr z hz).mono (hg _ (A.fb z hz).2.2.1) (hg _ (A.fb z hz).2.2.2.2.1), fun i hi => hg i (by have := A.bF; omega)⟩
  unfold mtU
  simp only [A.gF]
  rw [List.map_append]
  simp only [List.map_cons, List.map_nil, List.getLast?_concat, List.dropLast_concat]
  unfold setC
  rw [if_pos ⟨h1, own_lt A.gF⟩]
  rfl
theorem StAt.upd {z : Nat × Nat × Fr} (A : StAt O T n0 kF kS (fs ++ [z]) sts) {T' : Cs} {fr' : Fr} (F : FrAt O T' z.1 z.2.1 fr') (ho : Only O z.1 z.2.1 T T') : StAt O T' n0 kF kS (fs ++ [(z.1, z.2.1, fr')]) sts ∧ Kept O n0 T T' := by
  have hz : z ∈ fs ++ [z] := by simp
  have hb := A.fb z hz
  have hm : ∀ y ∈ fs, y ∈ fs ++ [z] := fun y hy => List.mem_append_left _ hy
  have hsep := (List.pairwise_append.mp A.sep)
  have hs2 : ∀ y ∈ fs, Sep y z := fun y hy => hsep.2.2 y hy z (by simp)
  refine ⟨⟨A.on, ?_, ?_, A.fk, A.bF, A.bS, ?_, ?_, ?_⟩, fun i hi => ho.2 i (by omega) (by omega)⟩
  · rw [ho.2 _ (Ne.symm hb.2.2.1) (Ne.symm hb.2.2.2.2.1), A.gF]
    simp
  · rw [ho.2 _ (Ne.symm hb.2.2.2.1) (Ne.symm hb.2.2.2.2.2), A.gS]
  · intro y hy
    rcases List.mem_append.mp hy with hy | hy
    · have s := hs2 y hy
      exact (A.fr y (hm y hy)).mono (ho.2 _ s.1 s.2.1) (ho.2 _ s.2.2.1 s.2.2.2)
    · rw [List.mem_singleton] at hy
      subst hy
      exact F
  · intro y hy
    rcases List.mem_append.mp hy with hy | hy
    · exact A.fb y (hm y hy)
    · rw [List.mem_singleton] at hy
      subst hy
      exact hb
  · rw [List.pairwise_append]
    refine ⟨hsep.1, by simp, fun x hx y hy => ?_⟩
    rw [List.mem_singleton] at hy
    subst hy
    exact hs2 x hx
theorem StAt.grow (A : StAt O T n0 kF kS fs sts) {T' : Cs} (hg : ∀ i, i < O.length + T.length → getC O T' i = getC O T i) : StAt O T' n0 kF kS fs sts := by
  refine ⟨A.on, by rw [hg _ (own_lt A.gF)]; exact A.gF, by rw [hg _ (own_lt A.gS)]; exact A.gS, A.fk, A.bF, A.bS, fun y hy => (A.fr y hy).mono (hg _ (own_lt (A.fr y hy).gi)) (hg _ (own_lt (A.fr y hy).gh)), A.fb, A.sep⟩
theorem StAt.lt (A : StAt O T n0 kF kS fs sts) : n0 ≤ O.length + T.length ∧ kF < O.length + T.length ∧ kS < O.length + T.length ∧ ∀ x ∈ fs, x.1 < O.length + T.length ∧ x.2.1 < O.length + T.length := by
  have h1 := own_lt A.gF
  have h2 := own_lt A.gS
  have := A.bF
  exact ⟨by omega, h1, h2, fun x hx => ⟨own_lt (A.fr x hx).gi, own_lt (A.fr x hx).gh⟩⟩
end
def b9I : CB := (.cons (.asg (.nm 12) (.ix (.v 1) (.bin false .sub (.bi false .len (.cons (.v 1) .nil)) (.c (.int 1)))))
  (.cons (.ex (.mcall 0 2 "put" (.v 12) (.cons (.ix (.ix (.ix (.ix (.v 0) (.fld 0 (.v 12) "function")) (.c (.int 3))) (.fld 0 (.v 12) "due")) (.c (.int 1))) (.cons (.v 10) (.cons (.v 11) .nil)))))
  (.cons (.setf 0 (.v 12) "due" (.bin false .add (.fld 0 (.v 12) "due") (.c (.int 1))))
  (.cons (.ex (.mt false .append (.v 4) (.cons (.call false 8 (.cons (.v 3) (.cons (.v 12) .nil)) []) .nil)))
  .nil))))
def b9A : CE := .mt false .append (.v 4) (.cons (.tup (.cons (.v 3) (.cons (.fld 0 (.v 5) "function") (.cons (.bi false .len (.cons (.v 9) .nil)) (.cons (.bin false .bor (.c (.int 1)) (.bin false .shl (.bi false .int (.cons (.v 11) .nil)) (.bin false .add (.bi false .len (.cons (.v 8) .nil)) (.c (.int 1))))) .nil))))) .nil)
def b9E : CB := (.cons (.ite (.cmp .gt (.bi false .len (.cons (.v 1) .nil)) (.c (.int 0))) b9I .nil) (.cons (.ret (.v 10)) .nil))
theorem b9_eq : b9 = (.cons (.asg (.nm 5) (.mt false .pop (.v 1) .nil))
 (.cons (.asg (.tp (.cons (.nm 6) (.cons (.nm 7) (.cons (.nm 8) (.cons (.nm 9) .nil))))) (.ix (.v 0) (.fld 0 (.v 5) "function")))
 (.cons (.asg (.nm 10) (.ix (.fld 0 (.v 5) "held") (.ix (.v 2) (.c (.int 1)))))
 (.cons (.asg (.nm 11) (.mcall 0 3 "is_dyed" (.v 5) (.cons (.ix (.v 2) (.c (.int 1))) .nil)))
 (.cons (.ex b9A) b9E))))) := rfl
/-- the last state of a function -/
def retD (s : Int) (f : Int) (fn : Fn) (d : Bool) : D := .tuple [.int s, .int f, .int fn.rows.length, .int (1 + (if d = true then 1 else 0) * 2 ^ (fn.vars.length + 1))]
theorem or_ret (d : Bool) (k : Nat) : Builtin.bitOr 1 ((if d = true then 1 else 0) * 2 ^ (k + 1)) = 1 + (if d = true then 1 else 0) * 2 ^ (k + 1) := by
  have h := or_one (d.toNat * 2 ^ k)
  have e : (((d.toNat * 2 ^ k : Nat) : Int) * 2) = (if d = true then 1 else 0) * 2 ^ (k + 1) := by
    cases d <;> simp [Int.pow_succ]
  rw [e] at h
  rw [h, ← e]
  omega
theorem gb_head {C : Cn} {O T T1 T2 : Cs} (u : U) (kF kS r h : Nat) (x s v : Int) (d : Bool) (f : Int) (fn : Fn)
    (tF : tyU O T (.ref kF) = some .list) (hpop : mtU O false .pop (.ref kF) [] T = .ok (.ref r) T1)
    (c1 : clsOf O T1 (.ref r) = some 0) (f1 : fldU O (.ref r) "function" T1 = some (.d (.int f))) (f3 : fldU O (.ref r) "held" T1 = some (.ref h)) (nm : fldU O (.ref r) "is_dyed" T1 = none)
    (hp : ixU O u (.d (.int f)) T1 = some (.d fn.dd)) (hv : ixU O (.ref h) (.d (.int x)) T1 = some (.d (.int v)))
    (hd : C.call O 3 [.ref r, .d (.int x)] T1 = .ok (.d (.bool d)) T1) (hn : fn.vars.length ≤ 4)
    (tS : tyU O T1 (.ref kS) = some .list) (happ : appU O kS (.d (retD s f fn d)) T1 = .ok (.d .none) T2) {rt : U → Cs → Prop}
    (hE : Wp (denB C O b9E [some u, some (.ref kF), some (.d (Rw.ret x).dd), some (.d (.int s)), some (.ref kS), some (.ref r), some (.d (.str fn.name)), some (.d (.int fn.given)), some (.d (.tuple (fn.vars.map .str))), some (.d (.tuple (fn.rows.map Rw.dd))), some (.d (.int v)), some (.d (.bool d)), none] T2) (fun _ _ => False) (fun _ _ => False) (fun _ _ => False) rt) : Wp (denB C O b9 [some u, some (.ref kF), some (.d (Rw.ret x).dd), some (.d (.int s)), some (.ref kS), none, none, none, none, none, none, none, none] T) (fun _ _ => False) (fun _ _ => False) (fun _ _ => False) rt := by
  have xx := x2 (.str "return") (.int x)
  have hor := or_ret d fn.vars.length
  unfold retD at happ
  unfold Fn.dd at hp
  simp only [Rw.dd] at hE ⊢
  generalize [PyData.str "return", .int x] = rowl at *
  have hlr : lenB O T1 (.d (.tuple (fn.rows.map Rw.dd))) = .ok (.d (.int fn.rows.length)) T1 := by rw [lenB_T]; simp
  have hlv : lenB O T1 (.d (.tuple (fn.vars.map .str))) = .ok (.d (.int fn.vars.length)) T1 := by rw [lenB_T]; simp
  have hk : ((fn.vars.length : Int) + 1).toNat = fn.vars.length + 1 := by omega
  have hk2 : 0 ≤ (fn.vars.length : Int) + 1 ∧ (fn.vars.length : Int) + 1 ≤ 1000 := by omega
  rw [← hk] at happ hor
  generalize (fn.rows.length : Int) = nr at *
  generalize (fn.vars.length : Int) = nv at *
  generalize fn.vars.map PyData.str = vl at *
  generalize fn.rows.map Rw.dd = rl at *
  generalize (fn.given : Int) = gv at *
  rw [b9_eq]
  refine st_asg (u := .ref r) (T' := T1) (by simp [-tyU_ref, tF, hpop]) ?_
  refine st_asgT (u := .d (.tuple [.str fn.name, .int gv, .tuple vl, .tuple rl])) (T' := T1) (ρ' := [some u, some (.ref kF), some (.d (.tuple rowl)), some (.d (.int s)), some (.ref kS), some (.ref r), some (.d (.str fn.name)), some (.d (.int gv)), some (.d (.tuple vl)), some (.d (.tuple rl)), none, none, none]) (by simp [c1, f1, hp]) (by simp) ?_
  refine st_asg (u := .d (.int v)) (T' := T1) (by simp [c1, f3, xx, hv]) ?_
  refine st_asg (u := .d (.bool d)) (T' := T1) (by simp [c1, nm, xx, hd]) ?_
  refine st_ex (u := .d .none) (T' := T2) ?_ ?_
  · unfold b9A
    cases d <;> simp only [if_true, if_false, Bool.false_eq_true, Int.zero_mul, Int.one_mul, Int.add_zero] at hor happ <;> simp [-tyU_ref, -appU_eq, -lenB_T, tS, c1, f1, hlr, hlv, hk2, hor, happ]
  · simp only [List.set_cons_zero, List.set_cons_succ]
    exact hE
end Lk73

set_option Elab.async false
set_option linter.all false
set_option maxRecDepth 100000
set_option maxHeartbeats 4000000
namespace Lk73
open PySem Y
theorem gb_none {C : Cn} {O T : Cs} (u0 u2 u3 u4 u5 u6 u7 u8 u9 u11 : U) (kF : Nat) (v : Int) (hF : getC O T kF = some (.lstU [])) : Wp (denB C O b9E [some u0, some (.ref kF), some u2, some u3, some u4, some u5, some u6, some u7, some u8, some u9, some (.d (.int v)), some u11, none] T) (fun _ _ => False) (fun _ _ => False) (fun _ _ => False) (fun w T' => w = .d (.int v) ∧ T' = T) := by
  have hl : lenB O T (.ref kF) = .ok (.d (.int 0)) T := lenB_refU hF
  refine st_ite (T' := T) false (by simp [hl]) ?_
  refine st_nil ?_
  exact st_ret (u := .d (.int v)) (T' := T) (by simp) ⟨rfl, rfl⟩
theorem gb_over {C : Cn} {O T T3 T4 T5 : Cs} (u u2 u5 u6 u7 u8 u9 : U) (kF kS ro : Nat) (s v X fo ao : Int) (d : Bool) (us : List U) (fn : Fn) (g : Int) (as : List Int) (sd : D)
    (hF : getC O T kF = some (.lstU (us ++ [.ref ro])))
    (c0 : clsOf O T (.ref ro) = some 0) (f1 : fldU O (.ref ro) "function" T = some (.d (.int fo))) (f2 : fldU O (.ref ro) "due" T = some (.d (.int ao))) (nm : fldU O (.ref ro) "put" T = none)
    (hp : ixU O u (.d (.int fo)) T = some (.d fn.dd)) (hrow : L2.atI (fn.rows.map Rw.dd) ao = some (Rw.cl X g as).dd)
    (hput : C.call O 2 [.ref ro, .d (.int X), .d (.int v), .d (.bool d)] T = .ok (.d .none) T3)
    (c3 : clsOf O T3 (.ref ro) = some 0) (f3 : fldU O (.ref ro) "due" T3 = some (.d (.int ao)))
    (hset : setfU O (.ref ro) "due" (.d (.int (ao + 1))) T3 = .ok (.d .none) T4)
    (tS : tyU O T4 (.ref kS) = some .list) (hst : callP C O 8 [.d (.int s), .ref ro] T4 = .ok (.d sd) T4)
    (happ : appU O kS (.d sd) T4 = .ok (.d .none) T5) : Wp (denB C O b9E [some u, some (.ref kF), some u2, some (.d (.int s)), some (.ref kS), some u5, some u6, some u7, some u8, some u9, some (.d (.int v)), some (.d (.bool d)), none] T) (fun _ _ => False) (fun _ _ => False) (fun _ _ => False) (fun w T' => w = .d (.int v) ∧ T' = T5) := by
  have hl : lenB O T (.ref kF) = .ok (.d (.int (us.length + 1))) T := by rw [lenB_refU hF]; simp
  have hx : ixU O (.ref kF) (.d (.int us.length)) T = some (.ref ro) := by
    refine ixU_atU hF ?_
    rw [atI_nat _ _ (by omega) (by simp; omega)]
    simp
  have h0 : 0 < (us.length : Int) + 1 := by omega
  have hrows := (fn_x fn).2.2
  have xx := x4 (.str "call") (.int X) (.int g) (.tuple (as.map .int))
  simp only [Rw.dd] at hrow
  unfold Fn.dd at hp
  generalize [PyData.str "call", .int X, .int g, .tuple (as.map .int)] = rowl at *
  generalize [PyData.str fn.name, .int fn.given, .tuple (fn.vars.map .str), .tuple (fn.rows.map Rw.dd)] = fl at *
  generalize fn.rows.map Rw.dd = rl at *
  generalize (us.length : Int) = k at *
  refine st_ite (T' := T) true (by simp [hl]; omega) ?_
  rw [if_pos rfl]
  unfold b9I
  refine st_asg (u := .ref ro) (T' := T) (by simp [hl, hx]) ?_
  refine st_ex (u := .d .none) (T' := T3) (by simp [c0, nm, f1, f2, hp, hrows, hrow, xx, hput]) ?_
  refine st_nx (ρ' := _) (T' := T4) (by simp [c3, f3, hset]; rfl) ?_
  refine st_ex (u := .d .none) (T' := T5) (by simp [-tyU_ref, -appU_eq, tS, hst, happ]) ?_
  refine st_nil ?_
  exact st_ret (u := .d (.int v)) (T' := T5) (by simp) ⟨rfl, rfl⟩
theorem PgU.kept {O T T' : Cs} {n0 : Nat} {k : Nat} {pr : List Fn} (hk : getC O T k = some (.lst (pr.map Fn.dd))) (h0 : k < n0) (hK : Kept O n0 T T') : PgU O T' (.ref k) pr := by
  refine ⟨fun g f g0 hf => ?_⟩
  have hg : getC O T' k = some (.lst (pr.map Fn.dd)) := by rw [hK k h0, hk]
  have hlt := (List.getElem?_eq_some_iff.mp hf).1
  refine ixU_at hg ?_
  rw [atI_nat _ _ g0 (by simp; omega)]
  simp [hf]
theorem StAt.tyS {O T : Cs} {n0 kF kS : Nat} {fs : List (Nat × Nat × Fr)} {sts : List D} (A : StAt O T n0 kF kS fs sts) : tyU O T (.ref kS) = some .list ∧ tyU O T (.ref kF) = some .list := by
  constructor
  · rw [tyU_ref, A.gS]
  · rw [tyU_ref, A.gF]
theorem stateof_c (n : Nat) {O T : Cs} {r h : Nat} {fr : Fr} (F : FrAt O T r h fr) (s : Int) : callP (cn G (n + 1)) O 8 [.d (.int s), .ref r] T = .ok (.d (stD s fr.a fr)) T := by
  have ec : clsOf (O ++ T) [] (.ref r) = clsOf O T (.ref r) := by unfold clsOf; simp only [getC_O]
  have ef : ∀ n, fldU (O ++ T) (.ref r) n [] = fldU O (.ref r) n T := fun n => by unfold fldU; simp only [getC_O]
  have hw := fun C => stateof_w (C := C) (O := O ++ T) (T := []) r s fr.f fr.a ((maskN fr.dy : Nat) : Int) (by rw [ec]; exact F.cls) (by rw [ef]; exact F.fld.1) (by rw [ef]; exact F.fld.2.1) (by rw [ef]; exact F.fld.2.2.2) (by have := mask_lt fr.dy F.le; omega) (or_one _)
  refine callP_r O T (T' := []) (Gv.eq (run_wp G8 rfl ?_))
  exact wp_mono2' (hw _)
theorem gbdone_ok (n : Nat) {O T : Cs} {n0 kF kS k : Nat} {pr : List Fn} {sts : List D} {z : Nat × Nat × Fr} (A : StAt O T n0 kF kS [z] sts) (hk : getC O T k = some (.lst (pr.map Fn.dd))) (h0 : k < n0) (fn : Fn) (f0 : 0 ≤ z.2.2.f) (hf : pr[z.2.2.f.toNat]? = some fn) (h4 : fn.vars.length ≤ 4) (x s : Int) (hx : In x z.2.2.held.length) (hs : sts.length ≤ 1000000) :
    ∃ T', StAt O T' n0 kF kS [] (sts ++ [retD s z.2.2.f fn (gB z.2.2.dy x)]) ∧ Kept O n0 T T' ∧ Y.run G (n + 2) O 9 [.ref k, .ref kF, .d (Rw.ret x).dd, .d (.int s), .ref kS] T = .ok (.d (.int (gI z.2.2.held x))) T' := by
  obtain ⟨T1, e1, A1, F1, K1⟩ := StAt.pop (fs := []) A
  obtain ⟨T2, e2, A2, K2, _⟩ := A1.app (retD s z.2.2.f fn (gB z.2.2.dy x)) hs
  refine ⟨T2, A2, K1.trans K2, Gv.eq (run_wp G9 rfl ?_)⟩
  refine wp_mono2' (gb_head _ kF kS z.1 z.2.1 x s (gI z.2.2.held x) (gB z.2.2.dy x) z.2.2.f fn A.tyS.2 e1 F1.cls F1.fld.1 F1.fld.2.2.1 F1.nom.2 ((PgU.kept hk h0 K1).at_ _ _ f0 hf) (held_at F1 x hx) (isdyed_ok n F1 x hx.1) h4 A1.tyS.1 e2 ?_)
  exact gb_none _ _ _ _ _ _ _ _ _ _ _ _ A2.gF
/-- the frame that goes on -/
def overR (X v : Int) (d : Bool) (fr : Fr) : Fr := ⟨fr.f, fr.a + 1, fr.held.set X.toNat v, fr.dy.set X.toNat d⟩
theorem gbover_ok (n : Nat) {O T : Cs} {n0 kF kS k : Nat} {pr : List Fn} {sts : List D} {bl : List (Nat × Nat × Fr)} {o z : Nat × Nat × Fr} (A : StAt O T n0 kF kS ((bl ++ [o]) ++ [z]) sts) (hk : getC O T k = some (.lst (pr.map Fn.dd))) (h0 : k < n0) (fn : Fn) (f0 : 0 ≤ z.2.2.f) (hf : pr[z.2.2.f.toNat]? = some fn) (h4 : fn.vars.length ≤ 4) (x s : Int) (hx : In x z.2.2.held.length) (hs : sts.length < 1000000)
    (fo : Fn) (o0 : 0 ≤ o.2.2.f) (hfo : pr[o.2.2.f.toNat]? = some fo) (a0 : 0 ≤ o.2.2.a) (X g : Int) (as : List Int) (hrow : fo.rows[o.2.2.a.toNat]? = some (.cl X g as)) (hX : In X o.2.2.held.length) :
    ∃ T', StAt O T' n0 kF kS (bl ++ [(o.1, o.2.1, overR X (gI z.2.2.held x) (gB z.2.2.dy x) o.2.2)]) ((sts ++ [retD s z.2.2.f fn (gB z.2.2.dy x)]) ++ [stD s (overR X (gI z.2.2.held x) (gB z.2.2.dy x) o.2.2).a (overR X (gI z.2.2.held x) (gB z.2.2.dy x) o.2.2)]) ∧ Kept O n0 T T' ∧ Y.run G (n + 2) O 9 [.ref k, .ref kF, .d (Rw.ret x).dd, .d (.int s), .ref kS] T = .ok (.d (.int (gI z.2.2.held x))) T' := by
  obtain ⟨T1, e1, A1, F1, K1⟩ := StAt.pop A
  obtain ⟨T2, e2, A2, K2, _⟩ := A1.app (retD s z.2.2.f fn (gB z.2.2.dy x)) (by omega)
  have Fo2 := A2.fr o (by simp)
  obtain ⟨T3, F3, O3, e3⟩ := put_ok n Fo2 X (gI z.2.2.held x) (gB z.2.2.dy x) hX.1 hX.2
  obtain ⟨T4, e4, F4, O4⟩ := F3.due (o.2.2.a + 1)
  obtain ⟨A4, K4⟩ := A2.upd F4 (O3.trans O4)
  obtain ⟨T5, e5, A5, K5, _⟩ := A4.app (stD s (o.2.2.a + 1) (overR X (gI z.2.2.held x) (gB z.2.2.dy x) o.2.2)) (by simp; omega)
  have KK := K1.trans (K2.trans (K4.trans K5))
  refine ⟨T5, A5, KK, Gv.eq (run_wp G9 rfl ?_)⟩
  refine wp_mono2' (gb_head _ kF kS z.1 z.2.1 x s (gI z.2.2.held x) (gB z.2.2.dy x) z.2.2.f fn A.tyS.2 e1 F1.cls F1.fld.1 F1.fld.2.2.1 F1.nom.2 ((PgU.kept hk h0 K1).at_ _ _ f0 hf) (held_at F1 x hx) (isdyed_ok n F1 x hx.1) h4 A1.tyS.1 e2 ?_)
  have hlt := (List.getElem?_eq_some_iff.mp hrow).1
  refine gb_over (T3 := T3) (T4 := T4) (T5 := T5) _ _ _ _ _ _ _ kF kS o.1 s (gI z.2.2.held x) X o.2.2.f o.2.2.a (gB z.2.2.dy x) (bl.map fun x => .ref x.1) fo g as _ ?_ Fo2.cls Fo2.fld.1 Fo2.fld.2.1 Fo2.nom.1 ((PgU.kept hk h0 (K1.trans K2)).at_ _ _ o0 hfo) ?_ e3 F3.cls F3.fld.2.1 e4 A4.tyS.1 (stateof_c n F4 s) e5
  · rw [A2.gF]
    simp
  · rw [atI_nat _ _ a0 (by simp; omega)]
    simp [hrow]
end Lk73

set_option Elab.async false
set_option linter.all false
set_option maxRecDepth 100000
set_option maxHeartbeats 4000000
namespace Lk73
open PySem Y
inductive Mc where
  | go (bl : List Fr) (top : Fr) (sts : List D) | done (sts : List D) (v : Int)
def fnOf (pr : List Fn) (g : Int) : Fn := (pr[g.toNat]?).getD ⟨"", 0, [], []⟩
def rowAt (pr : List Fn) (fr : Fr) : Rw := ((fnOf pr fr.f).rows[fr.a.toNat]?).getD (.to 0)
def regOf : Rw → Int
  | .cl x _ _ => x
  | _ => 0
def stepM (pr : List Fn) (s : Int) : Mc → Mc
  | .done a b => .done a b
  | .go bl top sts => match rowAt pr top with
    | .ret x => match bl.getLast? with
      | none => .done (sts ++ [retD s top.f (fnOf pr top.f) (gB top.dy x)]) (gI top.held x)
      | some o => .go bl.dropLast (overR (regOf (rowAt pr o)) (gI top.held x) (gB top.dy x) o) ((sts ++ [retD s top.f (fnOf pr top.f) (gB top.dy x)]) ++ [stD s (overR (regOf (rowAt pr o)) (gI top.held x) (gB top.dy x) o).a (overR (regOf (rowAt pr o)) (gI top.held x) (gB top.dy x) o)])
    | .cl _ g as => .go (bl ++ [top]) (calledR g (fnOf pr g).vars.length as top) (sts ++ [stD s (calledR g (fnOf pr g).vars.length as top).a (calledR g (fnOf pr g).vars.length as top)])
    | row => .go bl (plainR row top) (sts ++ [stD s (plainR row top).a (plainR row top)])
def machM (pr : List Fn) (m0 : Mc) : Nat → Mc
  | 0 => m0
  | n + 1 => stepM pr ((n : Int) + 1) (machM pr m0 n)
theorem mach_done {pr : List Fn} {m0 : Mc} {n : Nat} {a : List D} {v : Int} (h : machM pr m0 n = .done a v) : ∀ k, n ≤ k → machM pr m0 k = .done a v := by
  intro k hk
  induction k with
  | zero =>
    have : n = 0 := by omega
    subst this
    exact h
  | succ k ih =>
    by_cases e : n = k + 1
    · subst e; exact h
    · rw [machM, ih (by omega)]
      rfl
def resOf : Mc → List D × D
  | .go _ _ sts => (sts, .tuple [.str "spent"])
  | .done sts v => (sts, .tuple [.str "done", .int v])
def RwOk (pr : List Fn) (v m a : Nat) : Rw → Prop
  | .num x n => In x v ∧ 0 ≤ n ∧ n < 1000000000000000000 ∧ a + 1 < m
  | .cp x y => In x v ∧ In y v ∧ a + 1 < m
  | .dz x _ y z => In x v ∧ In y v ∧ In z v ∧ a + 1 < m
  | .dye x => In x v ∧ a + 1 < m
  | .wash x => In x v ∧ a + 1 < m
  | .to r => In r m
  | .iff x r => In x v ∧ In r m ∧ a + 1 < m
  | .ret x => In x v
  | .cl x g as => In x v ∧ In g pr.length ∧ (∀ y ∈ as, In y v) ∧ as.length ≤ (fnOf pr g).vars.length ∧ a + 1 < m
structure FnOk' (pr : List Fn) (f : Fn) : Prop where
  v4 : f.vars.length ≤ 4
  gv : f.given ≤ f.vars.length
  r0 : 0 < f.rows.length
  r9 : f.rows.length ≤ 100
  rw : ∀ a row, f.rows[a]? = some row → RwOk pr f.vars.length f.rows.length a row
structure PrOk (pr : List Fn) : Prop where
  ne : 0 < pr.length
  ok : ∀ f ∈ pr, FnOk' pr f
theorem fnOf_get {pr : List Fn} {g : Int} (h : In g pr.length) : pr[g.toNat]? = some (fnOf pr g) ∧ fnOf pr g ∈ pr := by
  have hl : g.toNat < pr.length := by have := h.1; have := h.2; omega
  have e : pr[g.toNat]? = some pr[g.toNat] := List.getElem?_eq_getElem hl
  have e2 : fnOf pr g = pr[g.toNat] := by simp [fnOf, e]
  rw [e2, e]
  exact ⟨rfl, List.getElem_mem _⟩
structure FrOk (pr : List Fn) (fr : Fr) : Prop where
  fi : In fr.f pr.length
  ai : In fr.a (fnOf pr fr.f).rows.length
  hl : fr.held.length = (fnOf pr fr.f).vars.length
  dl : fr.dy.length = (fnOf pr fr.f).vars.length
  ho : HeldOk fr.held
theorem FrOk.row {pr : List Fn} (P : PrOk pr) {fr : Fr} (F : FrOk pr fr) : (fnOf pr fr.f).rows[fr.a.toNat]? = some (rowAt pr fr) ∧ RwOk pr (fnOf pr fr.f).vars.length (fnOf pr fr.f).rows.length fr.a.toNat (rowAt pr fr) := by
  have hl : fr.a.toNat < (fnOf pr fr.f).rows.length := by have := F.ai.1; have := F.ai.2; omega
  have e : (fnOf pr fr.f).rows[fr.a.toNat]? = some (fnOf pr fr.f).rows[fr.a.toNat] := List.getElem?_eq_getElem hl
  have e2 : rowAt pr fr = (fnOf pr fr.f).rows[fr.a.toNat] := by simp [rowAt, e]
  have e3 : (fnOf pr fr.f).rows[fr.a.toNat]? = some (rowAt pr fr) := by rw [e2, e]
  exact ⟨e3, (P.ok _ (fnOf_get F.fi).2).rw _ _ e3⟩
theorem held_set {l : List Int} (h : HeldOk l) (i : Nat) (v : Int) (hv : 0 ≤ v ∧ v < 1000000000000000000) : HeldOk (l.set i v) := by
  intro x hx
  rcases List.mem_or_eq_of_mem_set hx with hx | hx
  · exact h x hx
  · rw [hx]; exact hv
theorem gI_all {l : List Int} (h : HeldOk l) (x : Int) : 0 ≤ gI l x ∧ gI l x < 1000000000000000000 := by
  unfold gI
  rw [List.getD_eq_getElem?_getD]
  cases e : l[x.toNat]? with
  | none => simp
  | some v => exact h v (List.mem_of_getElem? e)
theorem reck_ok (op : Fin 3) (y z : Int) : 0 ≤ reck op y z ∧ reck op y z < 1000000000000000000 := by
  match op with
  | 0 => simp only [reck]; omega
  | 1 => simp only [reck]; omega
  | 2 =>
    simp only [reck]
    generalize y * z = w
    omega
theorem frok_plain {pr : List Fn} (P : PrOk pr) {fr : Fr} (F : FrOk pr fr) (hp : PlainOk fr.held.length (rowAt pr fr)) : FrOk pr (plainR (rowAt pr fr) fr) := by
  obtain ⟨e, hr⟩ := F.row P
  have ai := F.ai
  have a1 := ai.1
  cases h : rowAt pr fr with
  | num x n =>
    rw [h] at hr
    obtain ⟨h1, h2, h3, h4⟩ := hr
    exact ⟨F.fi, ⟨by simp only [plainR]; omega, by simp only [plainR]; omega⟩, by simpa [plainR] using F.hl, by simpa [plainR] using F.dl, held_set F.ho _ _ ⟨h2, h3⟩⟩
  | cp x y =>
    rw [h] at hr
    obtain ⟨h1, h2, h3⟩ := hr
    exact ⟨F.fi, ⟨by simp only [plainR]; omega, by simp only [plainR]; omega⟩, by simpa [plainR] using F.hl, by simpa [plainR] using F.dl, held_set F.ho _ _ (gI_all F.ho _)⟩
  | dz x op y z =>
    rw [h] at hr
    obtain ⟨h1, h2, h3, h4⟩ := hr
    exact ⟨F.fi, ⟨by simp only [plainR]; omega, by simp only [plainR]; omega⟩, by simpa [plainR] using F.hl, by simpa [plainR] using F.dl, held_set F.ho _ _ (reck_ok _ _ _)⟩
  | dye x =>
    rw [h] at hr
    obtain ⟨h1, h2⟩ := hr
    exact ⟨F.fi, ⟨by simp only [plainR]; omega, by simp only [plainR]; omega⟩, by simpa [plainR] using F.hl, by simpa [plainR] using F.dl, held_set F.ho _ _ (gI_all F.ho _)⟩
  | wash x =>
    rw [h] at hr
    obtain ⟨h1, h2⟩ := hr
    exact ⟨F.fi, ⟨by simp only [plainR]; omega, by simp only [plainR]; omega⟩, by simpa [plainR] using F.hl, by simpa [plainR] using F.dl, held_set F.ho _ _ (gI_all F.ho _)⟩
  | to r =>
    rw [h] at hr
    exact ⟨F.fi, hr, F.hl, F.dl, F.ho⟩
  | iff x r =>
    rw [h] at hr
    obtain ⟨h1, h2, h3⟩ := hr
    refine ⟨F.fi, ?_, F.hl, F.dl, F.ho⟩
    simp only [plainR]
    split
    · exact h2
    · exact ⟨by omega, by omega⟩
  | ret x => rw [h] at hp; exact hp.elim
  | cl x g as => rw [h] at hp; exact hp.elim
theorem rwok_plain {pr : List Fn} {v m a : Nat} {row : Rw} (h : RwOk pr v m a row) : PlainOk v row ∨ (∃ x, row = .ret x ∧ In x v) ∨ ∃ x g as, row = .cl x g as := by
  cases row with
  | num x n => exact .inl h.1
  | cp x y => exact .inl ⟨h.1, h.2.1⟩
  | dz x op y z => exact .inl ⟨h.1, h.2.1, h.2.2.1⟩
  | dye x => exact .inl h.1
  | wash x => exact .inl h.1
  | to r => exact .inl trivial
  | iff x r => exact .inl h.1
  | ret x => exact .inr (.inl ⟨x, rfl, h⟩)
  | cl x g as => exact .inr (.inr ⟨x, g, as, rfl⟩)
theorem step_plain {pr : List Fn} {v : Nat} {top : Fr} (h : PlainOk v (rowAt pr top)) (s : Int) (bl : List Fr) (sts : List D) : stepM pr s (.go bl top sts) = .go bl (plainR (rowAt pr top) top) (sts ++ [stD s (plainR (rowAt pr top) top).a (plainR (rowAt pr top) top)]) := by
  cases e : rowAt pr top <;> first | (simp only [stepM, e]; done) | (rw [e] at h; exact False.elim h)
theorem step_call {pr : List Fn} {top : Fr} {x g : Int} {as : List Int} (h : rowAt pr top = .cl x g as) (s : Int) (bl : List Fr) (sts : List D) : stepM pr s (.go bl top sts) = .go (bl ++ [top]) (calledR g (fnOf pr g).vars.length as top) (sts ++ [stD s (calledR g (fnOf pr g).vars.length as top).a (calledR g (fnOf pr g).vars.length as top)]) := by
  simp only [stepM, h]
theorem step_done {pr : List Fn} {top : Fr} {x : Int} (h : rowAt pr top = .ret x) (s : Int) (sts : List D) : stepM pr s (.go [] top sts) = .done (sts ++ [retD s top.f (fnOf pr top.f) (gB top.dy x)]) (gI top.held x) := by
  simp only [stepM, h, List.getLast?_nil]
theorem step_over {pr : List Fn} {top o : Fr} {x : Int} (h : rowAt pr top = .ret x) (s : Int) (bl : List Fr) (sts : List D) : stepM pr s (.go (bl ++ [o]) top sts) = .go bl (overR (regOf (rowAt pr o)) (gI top.held x) (gB top.dy x) o) ((sts ++ [retD s top.f (fnOf pr top.f) (gB top.dy x)]) ++ [stD s (overR (regOf (rowAt pr o)) (gI top.held x) (gB top.dy x) o).a (overR (regOf (rowAt pr o)) (gI top.held x) (gB top.dy x) o)]) := by
  simp only [stepM, h, List.getLast?_concat, List.dropLast_concat]
def MOk (pr : List Fn) (bl : List Fr) (top : Fr) : Prop := FrOk pr top ∧ ∀ f ∈ bl, FrOk pr f ∧ ∃ x g as, rowAt pr f = .cl x g as
theorem held_pad {l : List Int} (h : HeldOk l) (v : Nat) : HeldOk (padI v l) := by
  intro x hx
  rcases List.mem_append.mp hx with hx | hx
  · exact h x hx
  · rw [(List.mem_replicate.mp hx).2]
    decide
theorem frok_call {pr : List Fn} (P : PrOk pr) {fr : Fr} (F : FrOk pr fr) {x g : Int} {as : List Int} (h : rowAt pr fr = .cl x g as) : FrOk pr (calledR g (fnOf pr g).vars.length as fr) := by
  obtain ⟨e, hr⟩ := F.row P
  rw [h] at hr
  obtain ⟨h1, h2, h3, h4, h5⟩ := hr
  refine ⟨h2, ⟨Int.le_refl _, ?_⟩, padI_len (by simpa using h4), padB_len (by simpa using h4), held_pad ?_ _⟩
  · have := (P.ok _ (fnOf_get h2).2).r0
    show (0 : Int) < _
    simp only [calledR]
    omega
  · intro y hy
    obtain ⟨z, _, rfl⟩ := List.mem_map.mp hy
    exact gI_all F.ho _
theorem frok_over {pr : List Fn} (P : PrOk pr) {o : Fr} (F : FrOk pr o) {x g : Int} {as : List Int} (h : rowAt pr o = .cl x g as) (v : Int) (hv : 0 ≤ v ∧ v < 1000000000000000000) (d : Bool) (X : Int) : FrOk pr (overR X v d o) := by
  obtain ⟨e, hr⟩ := F.row P
  rw [h] at hr
  obtain ⟨h1, h2, h3, h4, h5⟩ := hr
  have a1 := F.ai.1
  exact ⟨F.fi, ⟨by simp only [overR]; omega, by simp only [overR]; omega⟩, by simpa [overR] using F.hl, by simpa [overR] using F.dl, held_set F.ho _ _ hv⟩
/-- the machine stays right -/
theorem mach_ok {pr : List Fn} (P : PrOk pr) {fr : Fr} {st0 : List D} (F0 : FrOk pr fr) (h0 : st0.length = 1) : ∀ (i : Nat) bl top sts, machM pr (.go [] fr st0) i = .go bl top sts → MOk pr bl top ∧ sts.length ≤ 1 + 2 * i ∧ bl.length ≤ i
  | 0, bl, top, sts, h => by
    cases h
    exact ⟨⟨F0, fun f hf => by cases hf⟩, by omega, Nat.zero_le _⟩
  | i + 1, bl, top, sts, h => by
    rw [machM] at h
    cases e : machM pr (.go [] fr st0) i with
    | done a v =>
      rw [e] at h
      cases h
    | go bl0 top0 sts0 =>
      obtain ⟨⟨F, hb⟩, hs, hl⟩ := mach_ok P F0 h0 i bl0 top0 sts0 e
      rw [e] at h
      obtain ⟨er, hr⟩ := F.row P
      rcases rwok_plain hr with hp | ⟨x, hx, hin⟩ | ⟨x, g, as, hx⟩
      · rw [step_plain hp] at h
        cases h
        exact ⟨⟨frok_plain P F (by rw [F.hl]; exact hp), hb⟩, by simp; omega, by omega⟩
      · rcases List.eq_nil_or_concat bl0 with rfl | ⟨b', o, rfl⟩
        · rw [step_done hx] at h
          cases h
        · rw [List.concat_eq_append] at hb hl h
          rw [step_over hx] at h
          cases h
          obtain ⟨Fo, X, g, as, ho⟩ := hb o (by simp)
          exact ⟨⟨frok_over P Fo ho _ (gI_all F.ho _) _ _, fun f hf => hb f (List.mem_append_left _ hf)⟩, by simp; omega, by simp at hl; omega⟩
      · rw [step_call hx] at h
        cases h
        refine ⟨⟨frok_call P F hx, fun f hf => ?_⟩, by simp; omega, by simp; omega⟩
        rcases List.mem_append.mp hf with hf | hf
        · exact hb f hf
        · rw [List.mem_singleton] at hf
          subst hf
          exact ⟨F, x, g, as, hx⟩
end Lk73

set_option Elab.async false
set_option linter.all false
set_option maxRecDepth 100000
set_option maxHeartbeats 4000000
namespace Lk73
open PySem Y
def Rw.isRet : Rw → Bool
  | .ret _ => true
  | _ => false
def Rw.isCl : Rw → Bool
  | .cl _ _ _ => true
  | _ => false
theorem kind_eq (row : Rw) : ∃ l w, row.dd = .tuple l ∧ L2.atI l 0 = some (.str w) ∧ (∀ O T, cmpU O .eq (.d (.str w)) (.d (.str "return")) T = some row.isRet) ∧ ∀ O T, cmpU O .eq (.d (.str w)) (.d (.str "call")) T = some row.isCl := by
  cases row with
  | num x n => exact ⟨_, _, rfl, rfl, fun _ _ => q_number_return, fun _ _ => q_number_call⟩
  | cp x y => exact ⟨_, _, rfl, rfl, fun _ _ => q_copy_return, fun _ _ => q_copy_call⟩
  | dz x op y z => exact ⟨_, _, rfl, rfl, fun _ _ => q_does_return, fun _ _ => q_does_call⟩
  | dye x => exact ⟨_, _, rfl, rfl, fun _ _ => q_dye_return, fun _ _ => q_dye_call⟩
  | wash x => exact ⟨_, _, rfl, rfl, fun _ _ => q_wash_return, fun _ _ => q_wash_call⟩
  | to r => exact ⟨_, _, rfl, rfl, fun _ _ => q_to_return, fun _ _ => q_to_call⟩
  | iff x r => exact ⟨_, _, rfl, rfl, fun _ _ => q_if_return, fun _ _ => q_if_call⟩
  | ret x => exact ⟨_, _, rfl, rfl, fun _ _ => q_return_return, fun _ _ => q_return_call⟩
  | cl x g as => exact ⟨_, _, rfl, rfl, fun _ _ => q_call_return, fun _ _ => q_call_call⟩
def b10A : CB := (.cons (.asg (.nm 9) (.call true 9 (.cons (.v 0) (.cons (.v 4) (.cons (.v 8) (.cons (.v 6) (.cons (.v 5) .nil))))) []))
   (.cons (.ite (.cmp .eq (.bi false .len (.cons (.v 4) .nil)) (.c (.int 0))) (.cons (.ret (.tup (.cons (.v 5) (.cons (.tup (.cons (.c (.str "done")) (.cons (.v 9) .nil))) .nil))))
    .nil) .nil)
   .nil))
def b10S : CB := (.cons (.ex (.mt false .append (.v 5) (.cons (.call false 8 (.cons (.v 6) (.cons (.v 7) .nil)) []) .nil))) .nil)
def b10C : CB := (.cons (.asg (.nm 7) (.call true 7 (.cons (.v 0) (.cons (.v 7) (.cons (.v 8) .nil))) []))
    (.cons (.ex (.mt false .append (.v 4) (.cons (.v 7) .nil)))
    .nil))
def b10P : CB := (.cons (.ex (.call true 6 (.cons (.v 7) (.cons (.v 8) .nil)) [])) .nil)
def b10B : CB := (.cons (.ite (.cmp .eq (.ix (.v 8) (.c (.int 0))) (.c (.str "call"))) b10C b10P) b10S)
def b10L : CB := (.cons (.asg (.nm 7) (.ix (.v 4) (.bin false .sub (.bi false .len (.cons (.v 4) .nil)) (.c (.int 1)))))
  (.cons (.asg (.nm 8) (.ix (.ix (.ix (.v 0) (.fld 0 (.v 7) "function")) (.c (.int 3))) (.fld 0 (.v 7) "due")))
  (.cons (.ite (.cmp .eq (.ix (.v 8) (.c (.int 0))) (.c (.str "return"))) b10A b10B) .nil)))
def b10E : CB := (.cons (.ret (.tup (.cons (.v 5) (.cons (.tup (.cons (.c (.str "spent")) .nil)) .nil)))) .nil)
def b10F : CB := (.cons (.for_ (.nm 6) (.rng2 (.c (.int 1)) (.bin false .add (.v 3) (.c (.int 1)))) b10L) b10E)
theorem b10_eq : b10 = (.cons (.asg (.nm 4) (.lst true (.cons (.call true 4 (.cons (.v 0) (.cons (.c (.int 0)) (.cons (.v 1) (.cons (.bin false .band (.v 2) (.bin false .sub (.bin false .shl (.c (.int 1)) (.ix (.ix (.v 0) (.c (.int 0))) (.c (.int 1)))) (.c (.int 1)))) .nil)))) []) .nil)))
 (.cons (.asg (.nm 5) (.lst true (.cons (.call false 8 (.cons (.c (.int 0)) (.cons (.ix (.v 4) (.c (.int 0))) .nil)) []) .nil))) b10F)) := rfl
section
variable {C : Cn} {O T : Cs} {nx bk ct : Rho → Cs → Prop} {rt : U → Cs → Prop}
theorem wp_nilE {r : F} (hr : Wp r nx bk ct rt) : Wp r (fun ρ T => Wp (denB C O .nil ρ T) nx bk ct rt) bk ct rt := by
  cases r with
  | nx ρ T => exact (st_nil hr : Wp (denB C O .nil ρ T) nx bk ct rt)
  | rt u T => exact hr
  | bk ρ T => exact hr
  | ct ρ T => exact hr
  | exc => exact hr.elim
  | fail => exact hr.elim
/-- the last frame and its row are looked up -/
theorem runL_head (u u1 u2 u3 : U) (kF kS r : Nat) (s f a : Int) (us : List U) (fn : Fn) (row : Rw) (w7 w8 w9 : Option U) (v : Bool) (hv : v = row.isRet) (hF : getC O T kF = some (.lstU (us ++ [.ref r]))) (c0 : clsOf O T (.ref r) = some 0) (f1 : fldU O (.ref r) "function" T = some (.d (.int f))) (f2 : fldU O (.ref r) "due" T = some (.d (.int a)))
    (hp : ixU O u (.d (.int f)) T = some (.d fn.dd)) (hrow : L2.atI (fn.rows.map Rw.dd) a = some row.dd)
    (h : Wp (denB C O (if v = true then b10A else b10B) [some u, some u1, some u2, some u3, some (.ref kF), some (.ref kS), some (.d (.int s)), some (.ref r), some (.d row.dd), w9] T) nx bk ct rt) :
    Wp (denB C O b10L [some u, some u1, some u2, some u3, some (.ref kF), some (.ref kS), some (.d (.int s)), w7, w8, w9] T) nx bk ct rt := by
  have hl : lenB O T (.ref kF) = .ok (.d (.int (us.length + 1))) T := by rw [lenB_refU hF]; simp
  have hx : ixU O (.ref kF) (.d (.int us.length)) T = some (.ref r) := by
    refine ixU_atU hF ?_
    rw [atI_nat _ _ (by omega) (by simp; omega)]
    simp
  have hrows := (fn_x fn).2.2
  obtain ⟨l, w, e1, e2, e3, _⟩ := kind_eq row
  have e3 := e3 O T
  rw [← hv] at e3
  rw [e1] at hrow h
  unfold Fn.dd at hp
  generalize [PyData.str fn.name, .int fn.given, .tuple (fn.vars.map .str), .tuple (fn.rows.map Rw.dd)] = fl at *
  generalize fn.rows.map Rw.dd = rl at *
  generalize (us.length : Int) = k at *
  unfold b10L
  refine st_asg (u := .ref r) (T' := T) (by simp [hl, hx]) ?_
  refine st_asg (u := .d (.tuple l)) (T' := T) (by simp [c0, f1, f2, hp, hrows, hrow]) ?_
  refine st_ite (T' := T) v (by simp [e2, e3]) ?_
  simp only [List.set_cons_zero, List.set_cons_succ]
  exact wp_nilE h
/-- a return, the last one -/
theorem runL_done {T' : Cs} (u u1 u2 u3 ur : U) (kF kS : Nat) (s v : Int) (row : D) (w9 : Option U) (hg : C.call O 9 [u, .ref kF, .d row, .d (.int s), .ref kS] T = .ok (.d (.int v)) T') (hF : getC O T' kF = some (.lstU [])) (h : rt (.tup [.ref kS, .d (.tuple [.str "done", .int v])]) T') :
    Wp (denB C O b10A [some u, some u1, some u2, some u3, some (.ref kF), some (.ref kS), some (.d (.int s)), some ur, some (.d row), w9] T) nx bk ct rt := by
  have hl : lenB O T' (.ref kF) = .ok (.d (.int 0)) T' := lenB_refU hF
  unfold b10A
  refine st_asg (u := .d (.int v)) (T' := T') (by simp [hg]) ?_
  refine st_ite (T' := T') true (by simp [hl]) ?_
  rw [if_pos rfl]
  exact st_ret (u := .tup [.ref kS, .d (.tuple [.str "done", .int v])]) (T' := T') (by simp [mkT_eq]) h
theorem runL_over {T' : Cs} (u u1 u2 u3 ur : U) (kF kS : Nat) (s v : Int) (row : D) (w9 : Option U) (us : List U) (x : U) (hg : C.call O 9 [u, .ref kF, .d row, .d (.int s), .ref kS] T = .ok (.d (.int v)) T') (hF : getC O T' kF = some (.lstU (us ++ [x]))) (h : nx [some u, some u1, some u2, some u3, some (.ref kF), some (.ref kS), some (.d (.int s)), some ur, some (.d row), some (.d (.int v))] T') :
    Wp (denB C O b10A [some u, some u1, some u2, some u3, some (.ref kF), some (.ref kS), some (.d (.int s)), some ur, some (.d row), w9] T) nx bk ct rt := by
  have hl : lenB O T' (.ref kF) = .ok (.d (.int (us.length + 1))) T' := by rw [lenB_refU hF]; simp
  have hne : decide ((us.length : Int) + 1 = 0) = false := by rw [decide_eq_false_iff_not]; omega
  unfold b10A
  refine st_asg (u := .d (.int v)) (T' := T') (by simp [hg]) ?_
  refine st_ite (T' := T') false (by simp [hl]; omega) ?_
  rw [if_neg (by simp)]
  exact st_nil (st_nil h)
theorem runL_call {T1 T2 T3 : Cs} (u u1 u2 u3 : U) (kF kS r rn : Nat) (s : Int) (row : Rw) (sd : D) (w9 : Option U) (hv : row.isCl = true) (hc : C.call O 7 [u, .ref r, .d row.dd] T = .ok (.ref rn) T1) (tF : tyU O T1 (.ref kF) = some .list) (hF : appU O kF (.ref rn) T1 = .ok (.d .none) T2)
    (hst : callP C O 8 [.d (.int s), .ref rn] T2 = .ok (.d sd) T2) (tS : tyU O T2 (.ref kS) = some .list) (happ : appU O kS (.d sd) T2 = .ok (.d .none) T3) (h : nx [some u, some u1, some u2, some u3, some (.ref kF), some (.ref kS), some (.d (.int s)), some (.ref rn), some (.d row.dd), w9] T3) :
    Wp (denB C O b10B [some u, some u1, some u2, some u3, some (.ref kF), some (.ref kS), some (.d (.int s)), some (.ref r), some (.d row.dd), w9] T) nx bk ct rt := by
  obtain ⟨l, w, e1, e2, _, e3⟩ := kind_eq row
  have e3 := e3 O T
  rw [hv] at e3
  rw [e1] at hc h ⊢
  unfold b10B
  refine st_ite (T' := T) true (by simp [e2, e3]) ?_
  rw [if_pos rfl]
  unfold b10C
  refine st_asg (u := .ref rn) (T' := T1) (by simp [hc]) ?_
  refine st_ex (u := .d .none) (T' := T2) (by simp [-tyU_ref, -appU_eq, tF, hF]) ?_
  refine st_nil ?_
  unfold b10S
  refine st_ex (u := .d .none) (T' := T3) (by simp [-tyU_ref, -appU_eq, tS, hst, happ]) ?_
  refine st_nil ?_
  exact h
theorem runL_plain {T1 T2 : Cs} (u u1 u2 u3 : U) (kF kS r : Nat) (s : Int) (row : Rw) (sd : D) (w9 : Option U) (hv : row.isCl = false) (hc : C.call O 6 [.ref r, .d row.dd] T = .ok (.d .none) T1)
    (hst : callP C O 8 [.d (.int s), .ref r] T1 = .ok (.d sd) T1) (tS : tyU O T1 (.ref kS) = some .list) (happ : appU O kS (.d sd) T1 = .ok (.d .none) T2) (h : nx [some u, some u1, some u2, some u3, some (.ref kF), some (.ref kS), some (.d (.int s)), some (.ref r), some (.d row.dd), w9] T2) :
    Wp (denB C O b10B [some u, some u1, some u2, some u3, some (.ref kF), some (.ref kS), some (.d (.int s)), some (.ref r), some (.d row.dd), w9] T) nx bk ct rt := by
  obtain ⟨l, w, e1, e2, _, e3⟩ := kind_eq row
  have e3 := e3 O T
  rw [hv] at e3
  rw [e1] at hc h ⊢
  unfold b10B
  refine st_ite (T' := T) false (by simp [e2, e3]) ?_
  rw [if_neg (by simp)]
  unfold b10P
  refine st_ex (u := .d .none) (T' := T1) (by simp [hc]) ?_
  refine st_nil ?_
  unfold b10S
  refine st_ex (u := .d .none) (T' := T2) (by simp [-tyU_ref, -appU_eq, tS, hst, happ]) ?_
  refine st_nil ?_
  exact h
end
end Lk73

set_option Elab.async false
set_option linter.all false
set_option maxRecDepth 100000
set_option maxHeartbeats 4000000
namespace Lk73
open PySem Y
def SimI (O T0 : Cs) (n0 kF kS k : Nat) (pr : List Fn) (m0 : Mc) (u1 u2 u3 : U) (i : Nat) (ρ : Rho) (T : Cs) : Prop :=
  ∃ w6 w7 w8 w9 fs z sts, ρ = [some (.ref k), some u1, some u2, some u3, some (.ref kF), some (.ref kS), w6, w7, w8, w9] ∧ StAt O T n0 kF kS (fs ++ [z]) sts ∧ machM pr m0 i = .go (fs.map fun x => x.2.2) z.2.2 sts ∧ Kept O n0 T0 T
def SimR (O T0 : Cs) (n0 kS : Nat) (m : Mc) (u : U) (T : Cs) : Prop := getC O T kS = some (.lst (resOf m).1) ∧ u = .tup [.ref kS, .d (resOf m).2] ∧ Kept O n0 T0 T
theorem isRet_plain {v : Nat} {row : Rw} (h : PlainOk v row) : row.isRet = false ∧ row.isCl = false := by
  cases row <;> first | exact ⟨rfl, rfl⟩ | exact False.elim h
theorem run_turn (n : Nat) {O T0 : Cs} {n0 kF kS k : Nat} {pr : List Fn} (P : PrOk pr) (hk : getC O T0 k = some (.lst (pr.map Fn.dd))) (h0 : k < n0) {fr : Fr} {st0 : List D} (F0 : FrOk pr fr) (hs0 : st0.length = 1) (u1 u2 u3 : U) (i : Nat) (hi : i < 1000) (ρ : Rho) (T : Cs) (hI : SimI O T0 n0 kF kS k pr (.go [] fr st0) u1 u2 u3 i ρ T) {nx : Rho → Cs → Prop} :
    ∃ ρ1, asgT O T (.nm 6) (.d (.int ((i : Int) + 1))) ρ = some ρ1 ∧ Wp (denB (cn G (n + 4)) O b10L ρ1 T) (SimI O T0 n0 kF kS k pr (.go [] fr st0) u1 u2 u3 (i + 1)) nx (SimI O T0 n0 kF kS k pr (.go [] fr st0) u1 u2 u3 (i + 1)) (fun u T' => ∃ a v, machM pr (.go [] fr st0) (i + 1) = .done a v ∧ SimR O T0 n0 kS (.done a v) u T') := by
  obtain ⟨w6, w7, w8, w9, fs, z, sts, rfl, A, hm, K⟩ := hI
  obtain ⟨⟨F, hb⟩, hs, hl⟩ := mach_ok P F0 hs0 i _ _ _ hm
  have hl : fs.length ≤ i := by simpa using hl
  obtain ⟨e, hr⟩ := F.row P
  have hlt := (List.getElem?_eq_some_iff.mp e).1
  have hz := A.fr z (by simp)
  have hfn := fnOf_get F.fi
  have hpu := PgU.kept hk h0 K
  have hkT : getC O T k = some (.lst (pr.map Fn.dd)) := by rw [K k h0, hk]
  have hok := P.ok _ hfn.2
  have hrow : L2.atI ((fnOf pr z.2.2.f).rows.map Rw.dd) z.2.2.a = some (rowAt pr z.2.2).dd := by
    rw [atI_nat _ _ F.ai.1 (by simpa using F.ai.2)]
    simp [e]
  have hgF : getC O T kF = some (.lstU ((fs.map fun x => U.ref x.1) ++ [.ref z.1])) := by
    rw [A.gF]
    simp
  have hlts := A.lt
  have hst : machM pr (.go [] fr st0) (i + 1) = stepM pr ((i : Int) + 1) (.go (fs.map fun x => x.2.2) z.2.2 sts) := by rw [machM, hm]
  generalize hsv : (i : Int) + 1 = s at *
  refine ⟨_, asgT_nm .., ?_⟩
  have hCc : (cn G (n + 4)).call = Y.run G (n + 4) := rfl
  rcases rwok_plain hr with hp | ⟨x, hx, hin⟩ | ⟨x, g, as, hx⟩
  · have hk2 := isRet_plain hp
    obtain ⟨T1, F1, O1, e1⟩ := dorow_ok (n + 2) hz F.ho (rowAt pr z.2.2) (by rw [F.hl]; exact hp)
    obtain ⟨A1, K1⟩ := A.upd F1 O1
    obtain ⟨T2, e2, A2, K2, _⟩ := A1.app (stD s (plainR (rowAt pr z.2.2) z.2.2).a (plainR (rowAt pr z.2.2) z.2.2)) (by omega)
    rw [step_plain hp] at hst
    refine runL_head _ _ _ _ kF kS z.1 s _ _ _ (fnOf pr z.2.2.f) (rowAt pr z.2.2) _ _ _ false hk2.1.symm hgF hz.cls hz.fld.1 hz.fld.2.1 (hpu.at_ _ _ F.fi.1 hfn.1) hrow ?_
    rw [if_neg (by simp)]
    refine runL_plain (T1 := T1) (T2 := T2) _ _ _ _ kF kS z.1 s (rowAt pr z.2.2) _ w9 hk2.2 (by rw [hCc]; exact e1) (stateof_c (n + 3) F1 s) A1.tyS.1 e2 ?_
    exact ⟨_, _, _, _, fs, (z.1, z.2.1, plainR (rowAt pr z.2.2) z.2.2), _, rfl, A2, hst, K.trans (K1.trans K2)⟩
  · rw [hx] at hrow
    have hin' : In x z.2.2.held.length := by rw [F.hl]; exact hin
    refine runL_head _ _ _ _ kF kS z.1 s _ _ _ (fnOf pr z.2.2.f) (.ret x) _ _ _ true rfl hgF hz.cls hz.fld.1 hz.fld.2.1 (hpu.at_ _ _ F.fi.1 hfn.1) hrow ?_
    rw [if_pos rfl]
    rcases List.eq_nil_or_concat fs with rfl | ⟨bl, o, rfl⟩
    · rw [List.map_nil, step_done hx] at hst
      obtain ⟨T1, A1, K1, e1⟩ := gbdone_ok (n + 2) (A : StAt O T n0 kF kS [z] sts) hkT h0 _ F.fi.1 hfn.1 hok.v4 x s hin' (by omega)
      refine runL_done (T' := T1) _ _ _ _ _ kF kS s (gI z.2.2.held x) _ _ (by rw [hCc]; exact e1) A1.gF ?_
      exact ⟨_, _, hst, A1.gS, rfl, K.trans K1⟩
    · rw [List.concat_eq_append] at *
      rw [List.map_append, List.map_cons, List.map_nil, step_over hx] at hst
      obtain ⟨Fo, X, g, as, ho⟩ := hb o.2.2 (by simp)
      obtain ⟨eo, hro⟩ := Fo.row P
      rw [ho] at eo hro
      have hfo := fnOf_get Fo.fi
      have hX : In X o.2.2.held.length := by rw [Fo.hl]; exact hro.1
      obtain ⟨T1, A1, K1, e1⟩ := gbover_ok (n + 2) A hkT h0 _ F.fi.1 hfn.1 hok.v4 x s hin' (by omega) _ Fo.fi.1 hfo.1 Fo.ai.1 X g as eo hX
      have hreg : regOf (rowAt pr o.2.2) = X := by rw [ho]; rfl
      rw [hreg] at hst
      refine runL_over (T' := T1) _ _ _ _ _ kF kS s (gI z.2.2.held x) _ _ (bl.map fun x => .ref x.1) (.ref o.1) (by rw [hCc]; exact e1) (by rw [A1.gF]; simp) ?_
      exact ⟨_, _, _, _, bl, (o.1, o.2.1, overR X (gI z.2.2.held x) (gB z.2.2.dy x) o.2.2), _, rfl, A1, hst, K.trans K1⟩
  · rw [hx] at hrow hr
    rw [step_call hx] at hst
    have hg := fnOf_get hr.2.1
    refine runL_head _ _ _ _ kF kS z.1 s _ _ _ (fnOf pr z.2.2.f) (.cl x g as) _ _ _ false rfl hgF hz.cls hz.fld.1 hz.fld.2.1 (hpu.at_ _ _ F.fi.1 hfn.1) hrow ?_
    rw [if_neg (by simp)]
    obtain ⟨T1, F1, hl1, hg1, e1⟩ := called_ok (n + 1) hz (.ref k) pr hpu x g hr.2.1.1 _ hg.1 as (fun y hy => by rw [F.hl]; exact hr.2.2.1 y hy) hr.2.2.2.1 (P.ok _ hg.2).v4
    have A1 := A.grow hg1
    obtain ⟨T2, e2, A2, K2⟩ := A1.push (O.length + T.length + 2, O.length + T.length + 1, calledR g (fnOf pr g).vars.length as z.2.2) F1 ⟨by simp only; omega, by simp only; omega, by simp only; omega, by simp only; omega, by simp only; omega, by simp only; omega⟩ (fun y hy => by
      have := hlts.2.2.2 y hy
      exact ⟨by simp only; omega, by simp only; omega, by simp only; omega, by simp only; omega⟩) (by simp; omega)
    have F2 := A2.fr (O.length + T.length + 2, O.length + T.length + 1, calledR g (fnOf pr g).vars.length as z.2.2) (by simp)
    obtain ⟨T3, e3, A3, K3, _⟩ := A2.app (stD s (calledR g (fnOf pr g).vars.length as z.2.2).a (calledR g (fnOf pr g).vars.length as z.2.2)) (by omega)
    refine runL_call (T1 := T1) (T2 := T2) (T3 := T3) _ _ _ _ kF kS z.1 _ s (.cl x g as) _ w9 rfl (by rw [hCc]; exact e1) A1.tyS.2 e2 (stateof_c (n + 3) F2 s) A2.tyS.1 e3 ?_
    have hst' : machM pr (.go [] fr st0) (i + 1) = .go ((fs ++ [z]).map fun x => x.2.2) (calledR g (fnOf pr g).vars.length as z.2.2) (sts ++ [stD s (calledR g (fnOf pr g).vars.length as z.2.2).a (calledR g (fnOf pr g).vars.length as z.2.2)]) := by rw [hst]; simp
    refine ⟨_, _, _, _, fs ++ [z], (O.length + T.length + 2, O.length + T.length + 1, calledR g (fnOf pr g).vars.length as z.2.2), _, rfl, A3, hst', K.trans (Kept.trans (fun j hj => hg1 j (by omega)) (K2.trans K3))⟩
end Lk73

set_option Elab.async false
set_option linter.all false
set_option maxRecDepth 100000
set_option maxHeartbeats 4000000
namespace Lk73
open PySem Y
def dyOf (dyed given v : Nat) : List Bool := (List.range v).map fun i => decide (i < given) && dyed.testBit i
theorem dyOf_len (dyed given v : Nat) : (dyOf dyed given v).length = v := by simp [dyOf]
theorem mask_dyOf (dyed given v : Nat) (h : given ≤ v) : maskN (dyOf dyed given v) = dyed &&& (2 ^ given - 1) := by
  apply Nat.eq_of_testBit_eq
  intro i
  rw [mask_bit, Nat.testBit_and, Nat.testBit_two_pow_sub_one]
  unfold dyOf
  by_cases hi : i < v
  · simp [List.getD, hi, Bool.and_comm]
  · have : ¬ i < given := by omega
    simp [List.getD, hi, this]
def frame0 (pr : List Fn) (vs : List Int) (dyed : Nat) : Fr := ⟨0, 0, padI (fnOf pr 0).vars.length vs, dyOf dyed (fnOf pr 0).given (fnOf pr 0).vars.length⟩
def initM (pr : List Fn) (vs : List Int) (dyed : Nat) : Mc := .go [] (frame0 pr vs dyed) [stD 0 0 (frame0 pr vs dyed)]
theorem frok0 {pr : List Fn} (P : PrOk pr) {vs : List Int} (hv : vs.length ≤ (fnOf pr 0).vars.length) (hH : HeldOk vs) (dyed : Nat) : FrOk pr (frame0 pr vs dyed) := by
  have h0 : In 0 pr.length := ⟨Int.le_refl _, by have := P.ne; omega⟩
  have := (P.ok _ (fnOf_get h0).2).r0
  exact ⟨h0, ⟨Int.le_refl _, by show (0 : Int) < _; simp only [frame0]; omega⟩, padI_len hv, dyOf_len _ _ _, held_pad hH _⟩
theorem run_w {C : Cn} {O T T1 : Cs} (u gv um : U) (r kF kS : Nat) (given dy dm : Int) (f : Fn) (sd : D) (hp0 : ixU O u (.d (.int 0)) T = some (.d f.dd)) (hgv : (f.given : Int) = given) (g0 : 0 ≤ given ∧ given ≤ 1000)
    (hdm : Builtin.bitAnd dy (2 ^ given.toNat - 1) = dm) (hC : C.call O 4 [u, .d (.int 0), gv, .d (.int dm)] T = .ok (.ref r) T1) (hF : O.length + T1.length = kF) (hS : kS = kF + 1)
    (hst : callP C O 8 [.d (.int 0), .ref r] (T1 ++ [.lstU [.ref r]]) = .ok (.d sd) (T1 ++ [.lstU [.ref r]])) {rt : U → Cs → Prop}
    (h : Wp (denB C O b10F [some u, some gv, some (.d (.int dy)), some um, some (.ref kF), some (.ref kS), none, none, none, none] ((T1 ++ [.lstU [.ref r]]) ++ [.lst [sd]])) (fun _ _ => False) (fun _ _ => False) (fun _ _ => False) rt) :
    Wp (denB C O b10 [some u, some gv, some (.d (.int dy)), some um, none, none, none, none, none, none] T) (fun _ _ => False) (fun _ _ => False) (fun _ _ => False) rt := by
  have hx := (fn_x f).1
  rw [hgv] at hx
  unfold Fn.dd at hp0
  rw [hgv] at hp0
  generalize [PyData.str f.name, .int given, .tuple (f.vars.map .str), .tuple (f.rows.map Rw.dd)] = fl at *
  have hgF : getC O (T1 ++ [.lstU [.ref r]]) kF = some (.lstU [.ref r]) := by
    rw [← hF, getC_k]
    simp
  have hix : ixU O (.ref kF) (.d (.int 0)) (T1 ++ [.lstU [.ref r]]) = some (.ref r) := ixU_atU hgF rfl
  rw [b10_eq]
  refine st_asg (u := .ref kF) (T' := T1 ++ [.lstU [.ref r]]) ?_ ?_
  · simp [hp0, hx, g0, hdm, hC, hF, Y.cellOf]
  generalize hT2 : T1 ++ [Cell.lstU [.ref r]] = T2 at *
  have hS2 : O.length + T2.length = kS := by rw [← hT2]; simp; omega
  refine st_asg (u := .ref kS) (T' := T2 ++ [.lst [sd]]) ?_ ?_
  · simp [hix, hst, hS2, Y.cellOf]
  simp only [List.set_cons_zero, List.set_cons_succ]
  exact h
theorem runE_ok {C : Cn} {O T : Cs} (u0 u1 u2 u3 u4 : U) (kS : Nat) (w6 w7 w8 w9 : Option U) {nx bk ct : Rho → Cs → Prop} {rt : U → Cs → Prop} (h : rt (.tup [.ref kS, .d (.tuple [.str "spent"])]) T) : Wp (denB C O b10E [some u0, some u1, some u2, some u3, some u4, some (.ref kS), w6, w7, w8, w9] T) nx bk ct rt := by
  unfold b10E
  exact st_ret (u := .tup [.ref kS, .d (.tuple [.str "spent"])]) (T' := T) (by simp [mkT_eq]) h
theorem run_ok (n : Nat) {O T : Cs} {k : Nat} {pr : List Fn} (P : PrOk pr) (hk : getC O T k = some (.lst (pr.map Fn.dd))) (vs : List Int) (hv : vs.length = (fnOf pr 0).given) (hH : HeldOk vs) (dyed most : Nat) (hm : most ≤ 400) :
    ∃ T' kS, O.length + T.length ≤ kS ∧ getC O T' kS = some (.lst (resOf (machM pr (initM pr vs dyed) most)).1) ∧ Kept O (O.length + T.length) T T' ∧ Y.run G (n + 5) O 10 [.ref k, .d (.list (vs.map .int)), .d (.int dyed), .d (.int most)] T = .ok (.tup [.ref kS, .d (resOf (machM pr (initM pr vs dyed) most)).2]) T' := by
  have h00 : In 0 pr.length := ⟨Int.le_refl _, by have := P.ne; omega⟩
  have hfn := fnOf_get h00
  have hok := P.ok _ hfn.2
  have hgv := hok.gv
  have hv4 := hok.v4
  have h0 : k < O.length + T.length := own_lt hk
  have hpu := PgU.kept hk h0 (Kept.refl O (O.length + T.length) T)
  have F0 := frok0 P (vs := vs) (by omega) hH dyed
  obtain ⟨T1, F1, hl1, hg1, e1⟩ := newframe_ok (n + 2) O T (.ref k) pr hpu 0 (Int.le_refl _) _ hfn.1 vs (dyOf dyed (fnOf pr 0).given (fnOf pr 0).vars.length) (by omega) hv4 (dyOf_len _ _ _)
  have F1 : FrAt O T1 (O.length + T.length + 2) (O.length + T.length + 1) (frame0 pr vs dyed) := F1
  have hst := stateof_c (n + 3) (F1.app [.lstU [.ref (O.length + T.length + 2)]]) 0
  have ha : (frame0 pr vs dyed).a = 0 := rfl
  rw [ha] at hst
  obtain ⟨sd, hsd⟩ : ∃ sd, sd = stD 0 0 (frame0 pr vs dyed) := ⟨_, rfl⟩
  rw [← hsd] at hst
  have hlF : O.length + T1.length = O.length + T.length + 3 := by omega
  have K1 : Kept O (O.length + T.length) T ((T1 ++ [.lstU [.ref (O.length + T.length + 2)]]) ++ [.lst [sd]]) := fun i hi => by
    rw [← hg1 i hi, getC_eq, getC_eq, List.append_assoc, ← List.append_assoc, List.getElem?_append_left (by simp; omega)]
  have A : StAt O ((T1 ++ [.lstU [.ref (O.length + T.length + 2)]]) ++ [.lst [sd]]) (O.length + T.length) (O.length + T.length + 3) (O.length + T.length + 4) ([] ++ [(O.length + T.length + 2, O.length + T.length + 1, frame0 pr vs dyed)]) [sd] := by
    refine ⟨by omega, getC_app ?_, ?_, by omega, by omega, by omega, ?_, ?_, by simp⟩
    · rw [← hlF, getC_k]
      simp
    · rw [show O.length + T.length + 4 = O.length + (T1 ++ [Cell.lstU [.ref (O.length + T.length + 2)]]).length by simp; omega, getC_k]
      simp
    · intro y hy
      simp only [List.nil_append, List.mem_singleton] at hy
      subst hy
      exact (F1.app _).app _
    · intro y hy
      simp only [List.nil_append, List.mem_singleton] at hy
      subst hy
      exact ⟨by simp only; omega, by simp only; omega, by simp only; omega, by simp only; omega, by simp only; omega, by simp only; omega⟩
  have hinit : initM pr vs dyed = .go [] (frame0 pr vs dyed) [sd] := by rw [hsd]; rfl
  have hdm : Builtin.bitAnd (dyed : Int) (2 ^ ((fnOf pr 0).given : Int).toNat - 1) = ((maskN (dyOf dyed (fnOf pr 0).given (fnOf pr 0).vars.length) : Nat) : Int) := by
    rw [mask_dyOf _ _ _ hgv, Int.toNat_natCast]
    have e : ((2 : Int) ^ (fnOf pr 0).given - 1) = ((2 ^ (fnOf pr 0).given - 1 : Nat) : Int) := by
      have := Nat.one_le_two_pow (n := (fnOf pr 0).given)
      rw [Int.ofNat_sub this]
      simp
    rw [e, bitAnd_n]
  have hz : ∀ (um : U), ∃ T' kS, O.length + T.length ≤ kS ∧ True := fun _ => ⟨T, O.length + T.length, Nat.le_refl _, trivial⟩
  have main : Gv (Y.run G (n + 5) O 10 [.ref k, .d (.list (vs.map .int)), .d (.int dyed), .d (.int most)] T) (SimR O T (O.length + T.length) (O.length + T.length + 4) (machM pr (initM pr vs dyed) most)) := by
    refine run_wp G10 rfl ?_
    refine wp_mono2' (run_w (T1 := T1) (.ref k) (.d (.list (vs.map .int))) _ (O.length + T.length + 2) (O.length + T.length + 3) (O.length + T.length + 4) _ _ _ (fnOf pr 0) sd (hpu.at_ _ _ (Int.le_refl _) hfn.1) rfl (by omega) hdm e1 hlF rfl hst ?_)
    rw [hinit]
    unfold b10F
    have hr : (1 : Int) + (most : Int) - 1 = most := by omega
    refine st_for ⟨rngU 1 most 1, none, (T1 ++ [.lstU [.ref (O.length + T.length + 2)]]) ++ [.lst [sd]]⟩ ((T1 ++ [.lstU [.ref (O.length + T.length + 2)]]) ++ [.lst [sd]]) (SimI O T (O.length + T.length) (O.length + T.length + 3) (O.length + T.length + 4) k pr (.go [] (frame0 pr vs dyed) [sd]) (.d (.list (vs.map .int))) (.d (.int dyed)) (.d (.int most))) ?_ ?_ (fun _ _ _ _ => rfl) ?_ ?_
    · have := rng2_ok (C := cn G (n + 4)) (O := O) (T := (T1 ++ [.lstU [.ref (O.length + T.length + 2)]]) ++ [.lst [sd]]) (ρ := [some (.ref k), some (.d (.list (vs.map .int))), some (.d (.int dyed)), some (.d (.int most)), some (.ref (O.length + T.length + 3)), some (.ref (O.length + T.length + 4)), none, none, none, none]) (a := .c (.int 1)) (b := .bin false .add (.v 3) (.c (.int 1))) (i := 1) (j := (most : Int) + 1) (by simp) (by simp) (by omega) (by omega)
      rw [this]
      have e : ((most : Int) + 1 - 1).toNat = most := by omega
      rw [e]
    · exact ⟨_, _, _, _, [], (O.length + T.length + 2, O.length + T.length + 1, frame0 pr vs dyed), [sd], rfl, A, rfl, K1⟩
    · intro i u hu ρ T2 hI
      obtain ⟨hi, rfl⟩ := rngU_get hu
      have e : (1 + (i : Int) * 1) = (i : Int) + 1 := by omega
      rw [e]
      obtain ⟨ρ1, ea, hw⟩ := run_turn n P hk h0 F0 (by simp : [sd].length = 1) _ _ _ i (by omega) ρ T2 hI
      refine ⟨ρ1, ea, ?_⟩
      refine wp_mono2 hw ?_
      rintro u T3 ⟨a, v, hd, hR⟩
      rw [mach_done hd most (by omega)]
      exact hR
    · rintro ρ T2 ⟨w6, w7, w8, w9, fs, z, sts, rfl, A2, hm2, K2⟩
      simp only [rngU_len] at hm2
      refine runE_ok _ _ _ _ _ _ _ _ _ _ ?_
      rw [hm2]
      exact ⟨A2.gS, rfl, K2⟩
  obtain ⟨u, T', e, hg, rfl, K⟩ := main.ex
  exact ⟨T', O.length + T.length + 4, by omega, hg, K, e⟩
end Lk73

set_option Elab.async false
set_option linter.all false
set_option maxRecDepth 100000
set_option maxHeartbeats 4000000
namespace Lk73
open PySem Y
def hdD (hs : List (Int × Int)) : List D := hs.map fun x => .tuple [.int x.1, .int x.2]
def HdOk (hs : List (Int × Int)) : Prop := ∀ x ∈ hs, 0 ≤ x.1 ∧ x.1 ≤ x.2 ∧ x.2 ≤ 4
def InI (x v : Int) : Prop := 0 ≤ x ∧ x < v
def RwD (hs : List (Int × Int)) (v m : Int) : Rw → Prop
  | .num x n => InI x v ∧ 0 ≤ n ∧ n < 1000000000000000000
  | .cp x y => InI x v ∧ InI y v
  | .dz x _ y z => InI x v ∧ InI y v ∧ InI z v
  | .dye x => InI x v
  | .wash x => InI x v
  | .to r => InI r m
  | .iff x r => InI x v ∧ InI r m
  | .ret x => InI x v
  | .cl x g as => InI x v ∧ (∀ y ∈ as, InI y v) ∧ ∃ p, 0 ≤ g ∧ hs[g.toNat]? = some p ∧ (as.length : Int) = p.1
theorem hd_at {hs : List (Int × Int)} {f : Int} {p : Int × Int} (h0 : 0 ≤ f) (h : hs[f.toNat]? = some p) : L2.atI (hdD hs) f = some (.tuple [.int p.1, .int p.2]) := by
  have hi := (List.getElem?_eq_some_iff.mp h).1
  rw [atI_nat _ _ h0 (by simp [hdD]; omega)]
  simp [hdD, h]
theorem int_at {l : List Int} {f : Int} {m : Int} (h0 : 0 ≤ f) (h : l[f.toNat]? = some m) : L2.atI (l.map PyData.int) f = some (.int m) := by
  have hi := (List.getElem?_eq_some_iff.mp h).1
  rw [atI_nat _ _ h0 (by simp; omega)]
  simp [h]
theorem binU_smul {O T : Cs} {l : Bool} (a : Str) (k : Int) (h0 : 0 ≤ k) (h1 : k ≤ 1000) (h2 : a.length ≤ 1000) (h3 : 1 ≤ a.length) : binU O l .mul (.d (.str a)) (.d (.int k)) T = .ok (.d (.str (repS a k.toNat))) T := by
  show (if (decide (0 ≤ k) && decide (k ≤ 1000) && decide (a.length ≤ 1000) && decide (1 ≤ a.length)) = true then R.ok (U.d (.str (repS a k.toNat))) T else .fail) = _
  rw [if_pos (by simp [h0, h1, h2, h3])]
def abc (i : Nat) : Nat := ("abcd" : Str).cps.toList.getD i 0
theorem abcd_at (O T : Cs) (i : Nat) (h : i < 4) : ixU O (.d (.str "abcd")) (.d (.int (i : Int))) T = some (.d (.str ⟨#[abc i]⟩)) := by
  have e : ∀ j : Int, ixU O (.d (.str "abcd")) (.d (.int j)) T = (L2.atI ("abcd" : Str).cps.toList j).map fun c => .d (.str ⟨#[c]⟩) := fun j => by
    show (if Y.sizeOk ("abcd" : Str).length then (L2.atI ("abcd" : Str).cps.toList j).map fun c => U.d (.str ⟨#[c]⟩) else none) = _
    rw [if_pos (by decide +kernel)]
  have hl : ("abcd" : Str).cps.toList.length = 4 := by decide +kernel
  rw [e, atI_nat _ _ (by omega) (by omega)]
  have : ((i : Int).toNat) = i := by omega
  rw [this]
  unfold abc
  rw [List.getD_eq_getElem?_getD, List.getElem?_eq_getElem (by omega)]
  rfl
theorem lay_s {s : Str} (h : PyData.canLay0 (.str s) = true) : lay 0 (.str s) := ⟨h, Nat.le_refl _⟩
theorem f_name (O T : Cs) (f : Int) (f0 : 0 ≤ f) (f6 : f < 6) : ∃ s : Str, lay 0 (.str s) ∧ ∀ l l', (binU O l .mul (.d (.str "g")) (.d (.int f)) T) = .ok (.d (.str (repS "g" f.toNat))) T ∧ binU O l' .add (.d (.str "f")) (.d (.str (repS "g" f.toNat))) T = .ok (.d (.str s)) T := by
  have hly : ∀ n, n < 6 → PyData.canLay0 (.str (("f" : Str) ++ repS "g" n)) = true := by decide +kernel
  refine ⟨("f" : Str) ++ repS "g" f.toNat, lay_s (hly _ (by omega)), fun l l' => ⟨binU_smul _ _ f0 (by omega) (by decide +kernel) (by decide +kernel), ?_⟩⟩
  rw [binU_str]
  have : ∀ n, n < 6 → (("f" : Str).length + (repS "g" n).length ≤ 1000000) := by decide +kernel
  rw [if_pos (by simp; exact this _ (by omega))]
def FnL (fn : Fn) : Prop := lay 0 (.str fn.name) ∧ ∀ s ∈ fn.vars, lay 0 (.str s)
def FnD (hs : List (Int × Int)) (p : Int × Int) (fn : Fn) : Prop := (fn.given : Int) = p.1 ∧ (fn.vars.length : Int) = p.2 ∧ 0 < fn.rows.length ∧ fn.rows.length ≤ 9 ∧ FnL fn ∧ ∀ (a : Nat) row, fn.rows[a]? = some row → RwD hs p.2 fn.rows.length row ∧ (a + 1 < fn.rows.length ∨ (∃ r, row = .to r) ∨ ∃ x, row = .ret x)
def PrD (hs : List (Int × Int)) (fns : List Fn) : Prop := ∀ (j : Nat) fn p, fns[j]? = some fn → hs[j]? = some p → FnD hs p fn
theorem prok_of {hs : List (Int × Int)} {fns : List Fn} (hok : HdOk hs) (h0 : 0 < hs.length) (hl : fns.length = hs.length) (h : PrD hs fns) : PrOk fns := by
  refine ⟨by omega, fun f hf => ?_⟩
  obtain ⟨j, hj⟩ := List.getElem?_of_mem hf
  have hj' := (List.getElem?_eq_some_iff.mp hj).1
  have hp : hs[j]? = some hs[j] := List.getElem?_eq_getElem (by omega)
  have hb := hok _ (List.getElem_mem (by omega : j < hs.length))
  generalize hs[j] = p at hp hb
  obtain ⟨d1, d2, d3, d4, _, d5⟩ := h j f p hj hp
  refine ⟨by omega, by omega, d3, by omega, fun a row ha => ?_⟩
  have hal := (List.getElem?_eq_some_iff.mp ha).1
  obtain ⟨hw, hla⟩ := d5 a row ha
  have inn : ∀ x, InI x p.2 → In x f.vars.length := fun x hx => ⟨hx.1, by have := hx.2; omega⟩
  have lt : (¬ ∃ r, row = .to r) → (¬ ∃ x, row = .ret x) → a + 1 < f.rows.length := fun h1 h2 => by
    rcases hla with h | h | h
    · exact h
    · exact absurd h h1
    · exact absurd h h2
  cases row with
  | num x n => exact ⟨inn _ hw.1, hw.2.1, hw.2.2, lt (by simp) (by simp)⟩
  | cp x y => exact ⟨inn _ hw.1, inn _ hw.2, lt (by simp) (by simp)⟩
  | dz x o y z => exact ⟨inn _ hw.1, inn _ hw.2.1, inn _ hw.2.2, lt (by simp) (by simp)⟩
  | dye x => exact ⟨inn _ hw, lt (by simp) (by simp)⟩
  | wash x => exact ⟨inn _ hw, lt (by simp) (by simp)⟩
  | to r => exact hw
  | iff x r => exact ⟨inn _ hw.1, hw.2, lt (by simp) (by simp)⟩
  | ret x => exact inn _ hw
  | cl x g as =>
    obtain ⟨hx, has, q, g0, hq, hal2⟩ := hw
    have hql := (List.getElem?_eq_some_iff.mp hq).1
    have hing : In g fns.length := ⟨g0, by omega⟩
    have hgf := (fnOf_get hing).1
    obtain ⟨e1, e2, _⟩ := h g.toNat _ q hgf hq
    have hqb := hok _ (List.mem_of_getElem? hq)
    exact ⟨inn _ hx, hing, fun y hy => inn _ (has y hy), by omega, lt (by simp) (by simp)⟩
def IsSt (d : D) : Prop := ∃ a b c e : Int, d = .tuple [.int a, .int b, .int c, .int e]
def stsOf : Mc → List D
  | .go _ _ s => s
  | .done s _ => s
theorem is_stD (s a : Int) (fr : Fr) : IsSt (stD s a fr) := ⟨_, _, _, _, rfl⟩
theorem is_retD (s f : Int) (fn : Fn) (d : Bool) : IsSt (retD s f fn d) := ⟨_, _, _, _, rfl⟩
theorem sts_snoc {l : List D} {x : D} (h : ∀ d ∈ l, IsSt d) (hx : IsSt x) : ∀ d ∈ l ++ [x], IsSt d := by
  intro d hd
  rw [List.mem_append] at hd
  rcases hd with hd | hd
  · exact h d hd
  · simp only [List.mem_singleton] at hd
    subst hd
    exact hx
theorem step_sts {pr : List Fn} {s : Int} {m : Mc} (h : ∀ d ∈ stsOf m, IsSt d) : ∀ d ∈ stsOf (stepM pr s m), IsSt d := by
  cases m with
  | done a b => exact h
  | go bl top sts =>
    have h : ∀ d ∈ sts, IsSt d := h
    unfold stepM
    simp only
    split
    · split
      · exact sts_snoc h (is_retD _ _ _ _)
      · exact sts_snoc (sts_snoc h (is_retD _ _ _ _)) (is_stD _ _ _)
    · exact sts_snoc h (is_stD _ _ _)
    · exact sts_snoc h (is_stD _ _ _)
theorem mach_sts {pr : List Fn} {m0 : Mc} (h : ∀ d ∈ stsOf m0, IsSt d) : ∀ n, ∀ d ∈ stsOf (machM pr m0 n), IsSt d
  | 0 => h
  | n + 1 => step_sts (mach_sts h n)
theorem res_sts (m : Mc) : (resOf m).1 = stsOf m := by cases m <;> rfl
theorem lay_st {d : D} (h : IsSt d) : lay 1 d ∧ noB d = true := by
  obtain ⟨a, b, c, e, rfl⟩ := h
  refine ⟨lay_tuple fun x hx => ?_, rfl⟩
  simp only [List.mem_cons, List.not_mem_nil, or_false] at hx
  rcases hx with rfl | rfl | rfl | rfl <;> exact lay_int _
theorem noBs_all : ∀ {l : List D}, (∀ d ∈ l, noB d = true) → noBs l = true
  | [], _ => rfl
  | a :: l, h => by
    show (noB a && noBs l) = true
    rw [h a List.mem_cons_self, noBs_all fun d hd => h d (List.mem_cons_of_mem _ hd)]
    rfl
theorem lay_done : lay 0 (.str "done") := ⟨by decide +kernel, Nat.le_refl _⟩
theorem lay_spent : lay 0 (.str "spent") := ⟨by decide +kernel, Nat.le_refl _⟩
theorem res_ok (pr : List Fn) (vs : List Int) (dyed n : Nat) : lay 3 (.tuple [.list (resOf (machM pr (initM pr vs dyed) n)).1, (resOf (machM pr (initM pr vs dyed) n)).2]) ∧ noB (.tuple [.list (resOf (machM pr (initM pr vs dyed) n)).1, (resOf (machM pr (initM pr vs dyed) n)).2]) = true := by
  have hs := mach_sts (pr := pr) (m0 := initM pr vs dyed) (by
    intro d hd
    have hd : d ∈ [stD 0 0 (frame0 pr vs dyed)] := hd
    simp only [List.mem_singleton] at hd
    subst hd
    exact is_stD _ _ _) n
  rw [res_sts]
  generalize machM pr (initM pr vs dyed) n = m at *
  have he : lay 1 (resOf m).2 ∧ noB (resOf m).2 = true := by
    cases m with
    | go bl top sts =>
      refine ⟨lay_tuple fun x hx => ?_, rfl⟩
      simp only [List.mem_singleton] at hx
      subst hx
      exact lay_spent
    | done sts v =>
      refine ⟨lay_tuple fun x hx => ?_, rfl⟩
      simp only [List.mem_cons, List.not_mem_nil, or_false] at hx
      rcases hx with rfl | rfl
      · exact lay_done
      · exact lay_int _
  generalize (resOf m).2 = ed at *
  constructor
  · refine lay_tuple fun x hx => ?_
    simp only [List.mem_cons, List.not_mem_nil, or_false] at hx
    rcases hx with rfl | rfl
    · exact (lay_list fun d hd => (lay_st (hs d hd)).1).mono (by decide)
    · exact he.1.mono (by decide)
  · show noBs [.list (stsOf m), ed] = true
    have : noBs (stsOf m) = true := noBs_all fun d hd => (lay_st (hs d hd)).2
    simp [noBs, noB, this, he.2]
theorem toD_res {O T : Cs} {k : Nat} {sts : List D} {e : D} (h : getC O T k = some (.lst sts)) : toD O T 3 (.tup [.ref k, .d e]) = some (.tuple [.list sts, e]) := by
  rw [toD_tup, toDs_cons, toDs_cons, toDs_nil, toD_refS, h]
  rfl
theorem toD_lst {O T : Cs} {k : Nat} {ds : List D} (h : getC O T k = some (.lst ds)) : toD O T 3 (.ref k) = some (.list ds) := by
  rw [toD_refS, h]
end Lk73

set_option Elab.async false
set_option linter.all false
set_option maxRecDepth 100000
set_option maxHeartbeats 4000000
namespace Lk73
open PySem Y
structure F3 (x y z : Fr) : Prop where
  f1 : x.f = z.f
  f2 : y.f = z.f
  a1 : x.a = z.a
  a2 : y.a = z.a
  h1 : x.held = z.held
  h2 : y.held = z.held
  l1 : x.dy.length = z.dy.length
  l2 : y.dy.length = z.dy.length
  or_ : ∀ i : Nat, z.dy.getD i false = (x.dy.getD i false || y.dy.getD i false)
theorem getD_set (l : List Bool) (i j : Nat) (b : Bool) : (l.set i b).getD j false = if i = j ∧ i < l.length then b else l.getD j false := by
  by_cases h : i = j
  · subst h
    by_cases q : i < l.length
    · simp [List.getD, q]
    · have : l.set i b = l := List.set_eq_of_length_le (by omega)
      simp [this, q]
  · simp [List.getD, List.getElem?_set_ne h, h]
theorem F3.mask {x y z : Fr} (h : F3 x y z) : maskN z.dy = maskN x.dy ||| maskN y.dy := by
  apply Nat.eq_of_testBit_eq
  intro i
  rw [Nat.testBit_or, mask_bit, mask_bit, mask_bit]
  exact h.or_ i
theorem F3.gb {x y z : Fr} (h : F3 x y z) (r : Int) : gB z.dy r = (gB x.dy r || gB y.dy r) := h.or_ _
theorem or_set {a b c : List Bool} (l1 : a.length = c.length) (l2 : b.length = c.length) (h : ∀ i : Nat, c.getD i false = (a.getD i false || b.getD i false)) {p q r : Bool} (hr : r = (p || q)) (k : Nat) : ∀ i : Nat, (c.set k r).getD i false = ((a.set k p).getD i false || (b.set k q).getD i false) := by
  intro i
  rw [getD_set, getD_set, getD_set, l1, l2]
  by_cases e : k = i ∧ k < c.length
  · rw [if_pos e, if_pos e, if_pos e, hr]
  · rw [if_neg e, if_neg e, if_neg e]
    exact h i
theorem F3.row {x y z : Fr} (h : F3 x y z) (pr : List Fn) : rowAt pr x = rowAt pr z ∧ rowAt pr y = rowAt pr z := by
  unfold rowAt
  rw [h.f1, h.a1, h.f2, h.a2]
  exact ⟨rfl, rfl⟩
theorem F3.plain {x y z : Fr} (h : F3 x y z) (row : Rw) : F3 (plainR row x) (plainR row y) (plainR row z) := by
  obtain ⟨f1, f2, a1, a2, h1, h2, l1, l2, hor⟩ := h
  cases row with
  | num r n => exact ⟨f1, f2, by simp [plainR, a1], by simp [plainR, a2], by simp [plainR, h1], by simp [plainR, h2], by simp [plainR, l1], by simp [plainR, l2], or_set (p := false) (q := false) (r := false) l1 l2 hor rfl _⟩
  | cp r s => exact ⟨f1, f2, by simp [plainR, a1], by simp [plainR, a2], by simp [plainR, h1], by simp [plainR, h2], by simp [plainR, l1], by simp [plainR, l2], or_set l1 l2 hor (hor _) _⟩
  | dz r o s t =>
    refine ⟨f1, f2, by simp [plainR, a1], by simp [plainR, a2], by simp [plainR, h1], by simp [plainR, h2], by simp [plainR, l1], by simp [plainR, l2], or_set l1 l2 hor ?_ _⟩
    have e1 := hor s.toNat
    have e2 := hor t.toNat
    unfold gB
    rw [e1, e2]
    cases x.dy.getD s.toNat false <;> cases y.dy.getD s.toNat false <;> cases x.dy.getD t.toNat false <;> cases y.dy.getD t.toNat false <;> rfl
  | dye r => exact ⟨f1, f2, by simp [plainR, a1], by simp [plainR, a2], by simp [plainR, h1], by simp [plainR, h2], by simp [plainR, l1], by simp [plainR, l2], or_set (p := true) (q := true) (r := true) l1 l2 hor rfl _⟩
  | wash r => exact ⟨f1, f2, by simp [plainR, a1], by simp [plainR, a2], by simp [plainR, h1], by simp [plainR, h2], by simp [plainR, l1], by simp [plainR, l2], or_set (p := false) (q := false) (r := false) l1 l2 hor rfl _⟩
  | to r => exact ⟨f1, f2, rfl, rfl, h1, h2, l1, l2, hor⟩
  | iff r s => exact ⟨f1, f2, by simp [plainR, a1, h1], by simp [plainR, a2, h2], h1, h2, l1, l2, hor⟩
  | ret r => exact ⟨f1, f2, a1, a2, h1, h2, l1, l2, hor⟩
  | cl r g as => exact ⟨f1, f2, a1, a2, h1, h2, l1, l2, hor⟩
theorem F3.over {x y z : Fr} (h : F3 x y z) (X v : Int) (p q r : Bool) (hr : r = (p || q)) : F3 (overR X v p x) (overR X v q y) (overR X v r z) :=
  ⟨h.f1, h.f2, by simp [overR, h.a1], by simp [overR, h.a2], by simp [overR, h.h1], by simp [overR, h.h2], by simp [overR, h.l1], by simp [overR, h.l2], or_set h.l1 h.l2 h.or_ hr _⟩
theorem F3.called {x y z : Fr} (h : F3 x y z) (g : Int) (v : Nat) (as : List Int) : F3 (calledR g v as x) (calledR g v as y) (calledR g v as z) := by
  refine ⟨rfl, rfl, rfl, rfl, by simp [calledR, h.h1], by simp [calledR, h.h2], by simp [calledR, padB], by simp [calledR, padB], fun i => ?_⟩
  simp only [calledR, padB, List.length_map, List.getD_eq_getElem?_getD]
  by_cases q : i < as.length
  · rw [List.getElem?_append_left (by simpa using q), List.getElem?_append_left (by simpa using q), List.getElem?_append_left (by simpa using q)]
    simp [q, h.gb]
  · rw [List.getElem?_append_right (by simp; omega), List.getElem?_append_right (by simp; omega), List.getElem?_append_right (by simp; omega)]
    simp only [List.length_map, List.getElem?_replicate]
    split <;> rfl
/-- states -/
def S3 (x y z : D) : Prop := ∃ (s f a : Int) (m n : Nat), x = .tuple [.int s, .int f, .int a, .int (m : Int)] ∧ y = .tuple [.int s, .int f, .int a, .int (n : Int)] ∧ z = .tuple [.int s, .int f, .int a, .int ((m ||| n : Nat) : Int)]
theorem or_odd (a b : Nat) : (1 + 2 * a) ||| (1 + 2 * b) = 1 + 2 * (a ||| b) := by
  apply Nat.eq_of_testBit_eq
  intro i
  rw [Nat.testBit_or]
  have h : ∀ c : Nat, (1 + 2 * c).testBit i = if i = 0 then true else c.testBit (i - 1) := by
    intro c
    cases i with
    | zero => rw [Nat.testBit_zero]; simp <;> omega
    | succ j =>
      rw [Nat.testBit_succ]
      have : (1 + 2 * c) / 2 = c := by omega
      simp [this]
  rw [h, h, h]
  by_cases q : i = 0
  · simp [q]
  · simp [q, Nat.testBit_or]
theorem F3.st {x y z : Fr} (h : F3 x y z) (s : Int) : S3 (stD s x.a x) (stD s y.a y) (stD s z.a z) := by
  refine ⟨s, z.f, z.a, 1 + 2 * maskN x.dy, 1 + 2 * maskN y.dy, ?_, ?_, ?_⟩
  · rw [h.a1]
    unfold stD
    rw [h.f1]
    congr 5
  · rw [h.a2]
    unfold stD
    rw [h.f2]
    congr 5
  · unfold stD
    rw [or_odd, ← h.mask]
    congr 5
def retN (d : Bool) (k : Nat) : Nat := 1 + 2 * (if d = true then 2 ^ k else 0)
theorem ret_eq (d : Bool) (k : Nat) : (1 + (if d = true then (1 : Int) else 0) * 2 ^ (k + 1)) = ((retN d k : Nat) : Int) := by
  unfold retN
  cases d with
  | false => simp
  | true => simp [Int.pow_succ]; omega
theorem S3_ret (s f : Int) (fn : Fn) (p q r : Bool) (hr : r = (p || q)) : S3 (retD s f fn p) (retD s f fn q) (retD s f fn r) := by
  refine ⟨s, f, fn.rows.length, retN p fn.vars.length, retN q fn.vars.length, ?_, ?_, ?_⟩
  · unfold retD; rw [ret_eq]
  · unfold retD; rw [ret_eq]
  · unfold retD
    rw [ret_eq]
    unfold retN
    rw [or_odd, hr]
    cases p <;> cases q <;> simp
inductive All3 {α : Type} (P : α → α → α → Prop) : List α → List α → List α → Prop
  | nil : All3 P [] [] []
  | snoc {a b c : List α} {x y z : α} : All3 P a b c → P x y z → All3 P (a ++ [x]) (b ++ [y]) (c ++ [z])
theorem All3.len {α : Type} {P : α → α → α → Prop} {a b c : List α} (h : All3 P a b c) : a.length = c.length ∧ b.length = c.length := by
  induction h with
  | nil => exact ⟨rfl, rfl⟩
  | snoc _ _ ih => simp [ih.1, ih.2]
theorem All3.last {α : Type} {P : α → α → α → Prop} {a b c : List α} (h : All3 P a b c) : (a = [] ∧ b = [] ∧ c = []) ∨ ∃ a' b' c' x y z, a = a' ++ [x] ∧ b = b' ++ [y] ∧ c = c' ++ [z] ∧ All3 P a' b' c' ∧ P x y z := by
  cases h with
  | nil => exact .inl ⟨rfl, rfl, rfl⟩
  | snoc h p => exact .inr ⟨_, _, _, _, _, _, rfl, rfl, rfl, h, p⟩
theorem All3.get {α : Type} {P : α → α → α → Prop} {a b c : List α} (h : All3 P a b c) : ∀ (i : Nat) z, c[i]? = some z → ∃ x y, a[i]? = some x ∧ b[i]? = some y ∧ P x y z := by
  induction h with
  | nil => intro i z hz; simp at hz
  | @snoc a b c x y z h p ih =>
    intro i w hw
    have hl := h.len
    by_cases q : i < c.length
    · rw [List.getElem?_append_left q] at hw
      obtain ⟨u, v, e1, e2, e3⟩ := ih i w hw
      exact ⟨u, v, by rw [List.getElem?_append_left (by omega)]; exact e1, by rw [List.getElem?_append_left (by omega)]; exact e2, e3⟩
    · rw [List.getElem?_append_right (by omega)] at hw
      have hi := (List.getElem?_eq_some_iff.mp hw).1
      simp at hi
      have hw2 := List.mem_of_getElem? hw
      simp only [List.mem_singleton] at hw2
      subst hw2
      have : i = c.length := by omega
      exact ⟨x, y, by rw [List.getElem?_append_right (by omega)]; simp [this, hl.1], by rw [List.getElem?_append_right (by omega)]; simp [this, hl.2], p⟩
def M3 : Mc → Mc → Mc → Prop
  | .go b1 t1 s1, .go b2 t2 s2, .go b3 t3 s3 => All3 F3 b1 b2 b3 ∧ F3 t1 t2 t3 ∧ All3 S3 s1 s2 s3
  | .done s1 v1, .done s2 v2, .done s3 v3 => All3 S3 s1 s2 s3 ∧ v1 = v3 ∧ v2 = v3
  | _, _, _ => False
theorem M3.step {pr : List Fn} {s : Int} {m1 m2 m3 : Mc} (h : M3 m1 m2 m3) : M3 (stepM pr s m1) (stepM pr s m2) (stepM pr s m3) := by
  cases m3 with
  | done s3 v3 =>
    cases m1 with
    | go => cases m2 <;> exact h.elim
    | done s1 v1 =>
      cases m2 with
      | go => exact h.elim
      | done s2 v2 => exact h
  | go b3 t3 s3 =>
    cases m1 with
    | done => cases m2 <;> exact h.elim
    | go b1 t1 s1 =>
      cases m2 with
      | done => exact h.elim
      | go b2 t2 s2 =>
        obtain ⟨hb, ht, hs⟩ := h
        obtain ⟨r1, r2⟩ := ht.row pr
        unfold stepM
        simp only [r1, r2]
        cases hrow : rowAt pr t3 with
        | ret x =>
          simp only
          rw [ht.f1, ht.f2, ht.h1, ht.h2]
          rcases hb.last with ⟨rfl, rfl, rfl⟩ | ⟨a', b', c', x', y', z', rfl, rfl, rfl, hb', hp⟩
          · exact ⟨.snoc hs (S3_ret _ _ _ _ _ _ (ht.gb x)), rfl, rfl⟩
          · simp only [List.getLast?_append, List.getLast?_singleton, Option.some_or, List.dropLast_concat]
            obtain ⟨q1, q2⟩ := hp.row pr
            rw [q1, q2]
            have ho := hp.over (regOf (rowAt pr z')) (gI t3.held x) _ _ _ (ht.gb x)
            exact ⟨hb', ho, .snoc (.snoc hs (S3_ret _ _ _ _ _ _ (ht.gb x))) (ho.st s)⟩
        | cl x g as =>
          have hc := ht.called g (fnOf pr g).vars.length as
          exact ⟨.snoc hb ht, hc, .snoc hs (hc.st s)⟩
        | num x n => have hp := ht.plain (.num x n); exact ⟨hb, hp, .snoc hs (hp.st s)⟩
        | cp x y => have hp := ht.plain (.cp x y); exact ⟨hb, hp, .snoc hs (hp.st s)⟩
        | dz x o y z => have hp := ht.plain (.dz x o y z); exact ⟨hb, hp, .snoc hs (hp.st s)⟩
        | dye x => have hp := ht.plain (.dye x); exact ⟨hb, hp, .snoc hs (hp.st s)⟩
        | wash x => have hp := ht.plain (.wash x); exact ⟨hb, hp, .snoc hs (hp.st s)⟩
        | to r => have hp := ht.plain (.to r); exact ⟨hb, hp, .snoc hs (hp.st s)⟩
        | iff x r => have hp := ht.plain (.iff x r); exact ⟨hb, hp, .snoc hs (hp.st s)⟩
theorem M3.mach {pr : List Fn} {m1 m2 m3 : Mc} (h : M3 m1 m2 m3) : ∀ n, M3 (machM pr m1 n) (machM pr m2 n) (machM pr m3 n)
  | 0 => h
  | n + 1 => (M3.mach h n).step
theorem M3.init (pr : List Fn) (vs : List Int) (d e : Nat) : M3 (initM pr vs d) (initM pr vs e) (initM pr vs (d ||| e)) := by
  have h : F3 (frame0 pr vs d) (frame0 pr vs e) (frame0 pr vs (d ||| e)) := by
    refine ⟨rfl, rfl, rfl, rfl, rfl, rfl, by simp [frame0, dyOf_len], by simp [frame0, dyOf_len], fun i => ?_⟩
    simp only [frame0, dyOf, List.getD_eq_getElem?_getD, List.getElem?_map]
    by_cases q : i < (fnOf pr 0).vars.length
    · simp [q, Nat.testBit_or, Bool.and_or_distrib_left]
    · simp [q]
  exact ⟨.nil, h, .snoc .nil (h.st 0)⟩
/-- what is told of three runs -/
theorem res3 {m1 m2 m3 : Mc} (h : M3 m1 m2 m3) : All3 S3 (resOf m1).1 (resOf m2).1 (resOf m3).1 ∧ (resOf m1).2 = (resOf m3).2 ∧ (resOf m2).2 = (resOf m3).2 := by
  cases m3 with
  | done s3 v3 =>
    cases m1 with
    | go => cases m2 <;> exact h.elim
    | done s1 v1 =>
      cases m2 with
      | go => exact h.elim
      | done s2 v2 => exact ⟨h.1, by simp [resOf, h.2.1], by simp [resOf, h.2.2]⟩
  | go b3 t3 s3 =>
    cases m1 with
    | done => cases m2 <;> exact h.elim
    | go b1 t1 s1 =>
      cases m2 with
      | done => exact h.elim
      | go b2 t2 s2 => exact ⟨h.2.2, rfl, rfl⟩
end Lk73

set_option Elab.async false
set_option linter.all false
set_option maxRecDepth 100000
set_option maxHeartbeats 4000000
namespace Lk73
open PySem Y
def stepsOf : D → Int
  | .tuple (.int s :: _) => s
  | _ => 0
theorem step_new (pr : List Fn) (s : Int) (m : Mc) : ∃ new, stsOf (stepM pr s m) = stsOf m ++ new ∧ ∀ d ∈ new, stepsOf d = s := by
  cases m with
  | done a v => exact ⟨[], by simp [stepM, stsOf], by simp⟩
  | go bl top sts =>
    unfold stepM
    simp only
    split
    · split
      · exact ⟨[_], rfl, by simp [retD, stepsOf]⟩
      · refine ⟨_, List.append_assoc sts _ _, ?_⟩
        intro d hd
        rw [List.mem_append, List.mem_singleton, List.mem_singleton] at hd
        rcases hd with rfl | rfl <;> rfl
    · exact ⟨[_], rfl, by simp [stD, stepsOf]⟩
    · exact ⟨[_], rfl, by simp [stD, stepsOf]⟩
section
variable {pr : List Fn} {m0 : Mc}
theorem mach_grow (n : Nat) : ∀ k, ∃ more, stsOf (machM pr m0 (n + k)) = stsOf (machM pr m0 n) ++ more ∧ ∀ d ∈ more, (n : Int) < stepsOf d
  | 0 => ⟨[], by simp, by simp⟩
  | k + 1 => by
    obtain ⟨more, e, h⟩ := mach_grow n k
    obtain ⟨new, e2, h2⟩ := step_new pr (((n + k : Nat) : Int) + 1) (machM pr m0 (n + k))
    refine ⟨more ++ new, ?_, fun d hd => ?_⟩
    · show stsOf (stepM pr (((n + k : Nat) : Int) + 1) (machM pr m0 (n + k))) = _
      rw [e2, e, List.append_assoc]
    · rw [List.mem_append] at hd
      rcases hd with hd | hd
      · exact h d hd
      · rw [h2 d hd]; omega
theorem mach_le (h0 : ∀ d ∈ stsOf m0, stepsOf d ≤ 0) : ∀ n : Nat, ∀ d ∈ stsOf (machM pr m0 n), stepsOf d ≤ n
  | 0, d, hd => by have := h0 d hd; omega
  | n + 1, d, hd => by
    obtain ⟨new, e2, h2⟩ := step_new pr ((n : Int) + 1) (machM pr m0 n)
    have hd : d ∈ stsOf (stepM pr ((n : Int) + 1) (machM pr m0 n)) := hd
    rw [e2, List.mem_append] at hd
    rcases hd with hd | hd
    · have := mach_le h0 n d hd; omega
    · rw [h2 d hd]; omega
def isGo : Mc → Prop
  | .go _ _ _ => True
  | _ => False
theorem mach_end (hg : isGo m0) : ∀ n sts v, machM pr m0 n = .done sts v → ∃ (t : Nat) (l : List D) (x : D), t ≤ n ∧ sts = l ++ [x] ∧ stepsOf x = t ∧ machM pr m0 t = .done sts v ∧ ∀ k, k < t → isGo (machM pr m0 k)
  | 0, sts, v, h => by
    have h : m0 = .done sts v := h
    rw [h] at hg
    exact hg.elim
  | n + 1, sts, v, h => by
    cases hm : machM pr m0 n with
    | done a b =>
      have h' := mach_done hm (n + 1) (by omega)
      rw [h] at h'
      cases h'
      obtain ⟨t, l, x, q1, q2, q3, q4, q5⟩ := mach_end hg n sts v hm
      exact ⟨t, l, x, by omega, q2, q3, q4, q5⟩
    | go bl top s =>
      have h2 : stepM pr ((n : Int) + 1) (machM pr m0 n) = .done sts v := h
      rw [hm] at h2
      unfold stepM at h2
      simp only at h2
      split at h2
      · split at h2
        · injection h2 with e1 e2
          refine ⟨n + 1, s, _, by omega, e1.symm, by simp [retD, stepsOf], h, fun k hk => ?_⟩
          cases hk' : machM pr m0 k with
          | go => trivial
          | done a b =>
            have := mach_done hk' n (by omega)
            rw [hm] at this
            cases this
        · cases h2
      · cases h2
      · cases h2
theorem filter_split (few : Int) (a b : List D) (ha : ∀ d ∈ a, stepsOf d ≤ few) (hb : ∀ d ∈ b, few < stepsOf d) : (a ++ b).filter (fun d => decide (stepsOf d ≤ few)) = a := by
  rw [List.filter_append]
  have e1 : a.filter (fun d => decide (stepsOf d ≤ few)) = a := List.filter_eq_self.mpr fun d hd => by simpa using ha d hd
  have e2 : b.filter (fun d => decide (stepsOf d ≤ few)) = [] := List.filter_eq_nil_iff.mpr fun d hd => by have := hb d hd; simp; omega
  rw [e1, e2, List.append_nil]
theorem cut_spec (hg : isGo m0) (h0 : ∀ d ∈ stsOf m0, stepsOf d ≤ 0) (few bound : Nat) (hle : few ≤ bound) :
    (∃ v l x, (resOf (machM pr m0 bound)).2 = .tuple [.str "done", .int v] ∧ (resOf (machM pr m0 bound)).1 = l ++ [x] ∧ ((stepsOf x ≤ few ∧ resOf (machM pr m0 few) = resOf (machM pr m0 bound)) ∨ ((few : Int) < stepsOf x ∧ resOf (machM pr m0 few) = ((resOf (machM pr m0 bound)).1.filter (fun d => decide (stepsOf d ≤ (few : Int))), .tuple [.str "spent"]))))
    ∨ ((resOf (machM pr m0 bound)).2 = .tuple [.str "spent"] ∧ resOf (machM pr m0 few) = ((resOf (machM pr m0 bound)).1.filter (fun d => decide (stepsOf d ≤ (few : Int))), .tuple [.str "spent"])) := by
  have hsplit : ∀ bl top sts, machM pr m0 few = .go bl top sts → resOf (machM pr m0 few) = ((resOf (machM pr m0 bound)).1.filter (fun d => decide (stepsOf d ≤ (few : Int))), .tuple [.str "spent"]) := by
    intro bl top sts hm
    obtain ⟨more, e, h⟩ := mach_grow (pr := pr) (m0 := m0) few (bound - few)
    rw [show few + (bound - few) = bound by omega, hm] at e
    rw [hm, res_sts, e, filter_split _ _ _ (fun d hd => mach_le h0 few d (by rw [hm]; exact hd)) h]
    rfl
  cases hb : machM pr m0 bound with
  | go bl top sts =>
    right
    refine ⟨rfl, ?_⟩
    cases hf : machM pr m0 few with
    | go b2 t2 s2 => rw [← hb, ← hf]; exact hsplit _ _ _ hf
    | done a v =>
      have := mach_done hf bound hle
      rw [hb] at this
      cases this
  | done sts v =>
    left
    obtain ⟨t, l, x, h1, h2, h3, h4, h5⟩ := mach_end hg bound sts v hb
    refine ⟨v, l, x, rfl, h2, ?_⟩
    by_cases q : t ≤ few
    · left
      refine ⟨by omega, ?_⟩
      rw [mach_done h4 few q]
    · right
      refine ⟨by omega, ?_⟩
      have hgo := h5 few (by omega)
      rw [← hb]
      cases hf : machM pr m0 few with
      | go b2 t2 s2 => rw [← hf]; exact hsplit _ _ _ hf
      | done a b => rw [hf] at hgo; exact hgo.elim
end
end Lk73

set_option Elab.async false
set_option linter.all false
set_option maxRecDepth 100000
set_option maxHeartbeats 4000000
namespace Lk73
open PySem Y
def IsS (c : Cell) : Prop := ∃ (a b : Int) (f : Bool), c = .lst [.int a, .int b, .bool f]
/-- all cells stay but states, which stay states -/
structure Mv (O T T' : Cs) : Prop where
  le : T.length ≤ T'.length
  kp : ∀ i c, getC O T i = some c → getC O T' i = some c ∨ (IsS c ∧ O.length ≤ i ∧ ∃ c', IsS c' ∧ getC O T' i = some c')
theorem Mv.refl (O T : Cs) : Mv O T T := ⟨Nat.le_refl _, fun _ _ h => .inl h⟩
theorem Mv.trans {O T T' T'' : Cs} (a : Mv O T T') (b : Mv O T' T'') : Mv O T T'' := ⟨Nat.le_trans a.le b.le, fun i c h => by
  rcases a.kp i c h with h1 | ⟨h1, h0, c', h2, h3⟩
  · exact b.kp i c h1
  · rcases b.kp i c' h3 with h4 | ⟨_, _, c'', h5, h6⟩
    · exact .inr ⟨h1, h0, c', h2, h4⟩
    · exact .inr ⟨h1, h0, c'', h5, h6⟩⟩
theorem Mv.app (O T S : Cs) : Mv O T (T ++ S) := ⟨by simp, fun _ _ h => .inl (getC_app h)⟩
theorem Mv.get {O T T' : Cs} (m : Mv O T T') {i : Nat} {c : Cell} (h : getC O T i = some c) (hn : ¬ IsS c) : getC O T' i = some c := by
  rcases m.kp i c h with h1 | ⟨h1, _⟩
  · exact h1
  · exact absurd h1 hn
theorem Mv.setb {O T T' : Cs} (m : Mv O T T') {k : Nat} (hk : T.length ≤ k) (c : Cell) : Mv O T (T'.set k c) := ⟨by simpa using m.le, fun i d h => by
  have hlt := own_lt h
  have e : getC O (T'.set k c) i = getC O T' i := by
    rw [getC_eq, getC_eq]
    by_cases q : i < O.length
    · rw [List.getElem?_append_left q, List.getElem?_append_left q]
    · rw [List.getElem?_append_right (by omega), List.getElem?_append_right (by omega), List.getElem?_set_ne (by omega)]
  rw [e]
  exact m.kp i d h⟩
theorem Mv.setk {O T T' : Cs} (m : Mv O T T') {k : Nat} (hk : O.length + T.length ≤ k) (c : Cell) : Mv O T (T'.set (k - O.length) c) := m.setb (by omega) c
theorem Mv.lst {O T T' : Cs} (m : Mv O T T') {i : Nat} {us : List U} (h : getC O T i = some (.lstU us)) : getC O T' i = some (.lstU us) := m.get h (by rintro ⟨a, b, f, e⟩; cases e)
structure St3 (O T : Cs) (r : Nat) : Prop where
  lo : O.length ≤ r
  at_ : ∃ c, IsS c ∧ getC O T r = some c
theorem St3.mv {O T T' : Cs} {r : Nat} (h : St3 O T r) (m : Mv O T T') : St3 O T' r := ⟨h.lo, by
  obtain ⟨c, h1, h2⟩ := h.at_
  rcases m.kp r c h2 with h3 | ⟨_, _, c', h4, h5⟩
  · exact ⟨c, h1, h3⟩
  · exact ⟨c', h4, h5⟩⟩
theorem Mv.upd {O T : Cs} {r : Nat} (h : St3 O T r) {c : Cell} (hc : IsS c) : Mv O T (T.set (r - O.length) c) := by
  obtain ⟨c0, h1, h2⟩ := h.at_
  have hlt := own_lt h2
  have hlo := h.lo
  refine ⟨by simp, fun i d hd => ?_⟩
  by_cases q : i = r
  · subst q
    rw [h2] at hd
    cases hd
    exact .inr ⟨h1, hlo, c, hc, set_get h2 hlo⟩
  · left
    rw [get_set_ne hlo q]
    exact hd
theorem set3 {O T : Cs} {r : Nat} {ds : List D} (h : getC O T r = some (.lst ds)) (lo : O.length ≤ r) (k : Int) (v : D) (j : Nat) (hj : L2.ixN ds.length k = some j) : setiU O (.ref r) (.d (.int k)) (.d v) T = .ok (.d .none) (T.set (r - O.length) (.lst (ds.set j v))) := by
  unfold setiU
  simp only [h, hj]
  unfold setC
  rw [if_pos ⟨lo, own_lt h⟩]
def Next3 (C : Cn) : Prop := ∀ (O T : Cs) (r : Nat) (m : Int), St3 O T r → 0 < m → m < 1000000000000000000000000000000000000000000000000000000000000 → ∃ (v : Int) (T' : Cs), 0 ≤ v ∧ v < m ∧ Mv O T T' ∧ C.call O 13 [.ref r, .d (.int m)] T = .ok (.d (.int v)) T'
theorem next3_run (n : Nat) : Next3 (cn G (n + 1)) := by
  intro O T r m hs h0 h60
  suffices hg : Gv (Y.run G (n + 1) O 13 [.ref r, .d (.int m)] T) fun u T' => ∃ (v : Int), 0 ≤ v ∧ v < m ∧ u = .d (.int v) ∧ Mv O T T' by
    obtain ⟨u, T', e, v, h1, h2, rfl, h3⟩ := hg.ex
    exact ⟨v, T', h1, h2, h3, e⟩
  refine run_wp G13 rfl ?_
  generalize cn G n = C
  obtain ⟨c, ⟨a, b, f, rfl⟩, hc⟩ := hs.at_
  have lo := hs.lo
  have i0 : ixU O (.ref r) (.d (.int 0)) T = some (.d (.int a)) := ixU_at hc rfl
  have i1 : ixU O (.ref r) (.d (.int 1)) T = some (.d (.int b)) := ixU_at hc rfl
  have u0 : setiU O (.ref r) (.d (.int 0)) (.d (.int (a / m))) T = .ok (.d .none) (T.set (r - O.length) (.lst [.int (a / m), .int b, .bool f])) := set3 hc lo 0 _ 0 rfl
  have m0 : Mv O T (T.set (r - O.length) (.lst [.int (a / m), .int b, .bool f])) := Mv.upd hs ⟨_, _, _, rfl⟩
  obtain ⟨o, ho⟩ : ∃ o : Int, o = (b * 69621 + 40503) % 2147483647 := ⟨_, rfl⟩
  obtain ⟨b', hb'⟩ : ∃ b' : Int, b' = (o * 48271 + 7919) % 2147483629 := ⟨_, rfl⟩
  have u1 : setiU O (.ref r) (.d (.int 1)) (.d (.int b')) T = .ok (.d .none) (T.set (r - O.length) (.lst [.int a, .int b', .bool f])) := set3 hc lo 1 _ 1 rfl
  have m1 : Mv O T (T.set (r - O.length) (.lst [.int a, .int b', .bool f])) := Mv.upd hs ⟨_, _, _, rfl⟩
  have g1 : getC O (T.set (r - O.length) (.lst [.int a, .int b', .bool f])) r = some (.lst [.int a, .int b', .bool f]) := set_get hc lo
  have i2 : ixU O (.ref r) (.d (.int 1)) (T.set (r - O.length) (.lst [.int a, .int b', .bool f])) = some (.d (.int b')) := ixU_at g1 rfl
  have k1 : mulOk b 69621 = true := mul_ok (by decide)
  have k2 : mulOk o 48271 = true := mul_ok (by decide)
  have k3 : mulOk o 2147483563 = true := mul_ok (by decide)
  generalize T.set (r - O.length) (.lst [.int a, .int b', .bool f]) = T1 at *
  generalize T.set (r - O.length) (.lst [.int (a / m), .int b, .bool f]) = T0 at *
  have hem : ∀ z : Int, 0 ≤ z % m ∧ z % m < m := fun z => ⟨Int.emod_nonneg _ (by omega), Int.emod_lt_of_pos _ h0⟩
  have h60' : 0 < m ∧ m < 1000000000000000000000000000000000000000000000000000000000000 := ⟨h0, h60⟩
  unfold b13
  refine st_asg (u := .d (.int a)) (T' := T) (by simp [i0]) ?_
  refine st_ite (T' := T) (decide (0 < a)) (by simp) ?_
  by_cases q : 0 < a
  · rw [if_pos (by simp [q])]
    refine st_nx (ρ' := [some (.ref r), some (.d (.int m)), some (.d (.int a)), none]) (T' := T0) (by simp [h60', u0]) ?_
    exact st_ret (u := .d (.int (a % m))) (T' := T0) (by simp [h0]) ⟨_, (hem a).1, (hem a).2, rfl, m0⟩
  · rw [if_neg (by simp [q])]
    refine st_nil ?_
    refine st_asg (u := .d (.int o)) (T' := T) (by simp [i1, k1, ← ho]) ?_
    refine st_nx (ρ' := [some (.ref r), some (.d (.int m)), some (.d (.int a)), some (.d (.int o))]) (T' := T1) (by simp [k2, ← hb', u1]) ?_
    exact st_ret (u := .d (.int ((o * 2147483563 + b') % m))) (T' := T1) (by simp [k3, i2, h0]) ⟨_, (hem _).1, (hem _).2, rfl, m1⟩
/-- numbers drawn, so many -/
theorem nexts3 {C : Cn} (hn : Next3 C) (O T : Cs) (r : Nat) (m : Int) (hs : St3 O T r) (hm : 0 < m) (hm2 : m ≤ 1000000000000000000) (ρ : Rho) (a b k : Nat) (ha : ρ[a]? = some (some (.ref r))) (hb : ρ[b]? = some (some (.d (.int m)))) (hka : k ≠ a) (hkb : k ≠ b) (hk : k < ρ.length) (e : CE) (z : Int) (he : den C O ρ e T = .ok (.d (.int z)) T) (z0 : 0 ≤ z) (z1 : z ≤ 1000) :
    ∃ (vs : List Int) (T' : Cs), (vs.length : Int) = z ∧ (∀ v ∈ vs, 0 ≤ v ∧ v < m) ∧ Mv O T T' ∧ den C O ρ (.comp false (.call true 13 (.cons (.v a) (.cons (.v b) .nil)) []) (.nm k) (.rng1 e) (.c (.bool true)) [k]) T = .ok (.d (.list (vs.map .int))) T' := by
  have hro : rngOk 0 z = true := by simp [rngOk]; omega
  have hI : denI C O ρ (.rng1 e) T = .ok ⟨rngU 0 z.toNat 1, none, T⟩ T := Y.rng1_ok he hro rfl
  obtain ⟨acc, T', ⟨vs, h1, rfl, h2, h4, h5⟩, ee⟩ := comp_w (C := C) (O := O) (live := false) (elt := .call true 13 (.cons (.v a) (.cons (.v b) .nil)) []) (g := .nm k) (t := .c (.bool true)) (own := [k])
    (fun i acc T' => ∃ vs : List Int, vs.length = i ∧ acc = (vs.map PyData.int).map .d ∧ (∀ v ∈ vs, 0 ≤ v ∧ v < m) ∧ Mv O T T' ∧ getC O T' (O.length + T.length) = some (.lstU acc)) hI
    ⟨[], rfl, rfl, by simp, Mv.app _ _ _, by rw [getC_k]; simp⟩
    (fun i acc T' ⟨vs, h1, h2, _, _, h5⟩ => by
      rw [getC_k] at h5
      exact ⟨h5, rfl, by rw [h2]; simp; omega⟩)
    (fun i u hu acc T' ⟨vs, h1, h2, h3, h5, h6⟩ => by
      obtain ⟨v, T1, b0, b1, c1, e1⟩ := hn O T' r m (hs.mv h5) hm (by omega)
      have h7 := c1.lst h6
      refine ⟨_, asgT_nm .., true, T', den_c .., fun hh => (by cases hh), fun _ => ⟨.d (.int v), T1, ?_, by rw [getC_k] at h7; exact h7, vs ++ [v], by simp [h1], by simp [h2], ?_, (h5.trans c1).setb (Nat.le_refl _) _, ?_⟩⟩
      · have g1 : ((wipeR ρ [k]).set k (some u))[a]? = some (some (.ref r)) := by simp [wipeR, List.getElem?_set_ne hka, ha]
        have g2 : ((wipeR ρ [k]).set k (some u))[b]? = some (some (.d (.int m))) := by simp [wipeR, List.getElem?_set_ne hkb, hb]
        simp [g1, g2, e1]
      · intro x hx
        rw [List.mem_append] at hx
        rcases hx with hx | hx
        · exact h3 x hx
        · simp only [List.mem_singleton] at hx
          subst hx
          exact ⟨b0, b1⟩
      · have := set_get (c' := .lstU (acc ++ [U.d (.int v)])) h7 (Nat.le_add_right _ _)
        rw [show O.length + T.length - O.length = T.length by omega] at this
        exact this)
    (by rw [rngU_len]; omega)
  rw [rngU_len] at h1
  rw [getC_k] at h5
  obtain ⟨T'', e2, hT⟩ := compE_f (O := O) (T0 := T) h5
  rw [e2] at ee
  rcases hT with rfl | rfl
  · exact ⟨vs, T'', by omega, h2, Mv.refl _ _, ee⟩
  · exact ⟨vs, _, by omega, h2, h4.setb (Nat.le_refl _) _, ee⟩
/-- a state of a cell's own -/
def State3 (C : Cn) (ua : U) : Prop := ∀ (O T : Cs) (k : Int), 0 ≤ k → k ≤ 100 → ∃ (c : Cell), IsS c ∧ C.call O 12 [ua, .d (.int k)] T = .ok (.ref (O.length + T.length)) (T ++ [c])
theorem state3_run (n : Nat) (ua : U) (hc : CellNOk (cn G n) 11 ua) : State3 (cn G (n + 1)) ua := by
  intro O T k k0 k1
  suffices hg : Gv (Y.run G (n + 1) O 12 [ua, .d (.int k)] T) fun u T' => u = .ref (O.length + T.length) ∧ ∃ c, IsS c ∧ T' = T ++ [c] by
    obtain ⟨u, T', e, rfl, c, h1, rfl⟩ := hg.ex
    exact ⟨c, h1, e⟩
  refine run_wp G12 rfl ?_
  generalize cn G n = C at hc ⊢
  obtain ⟨w, hw⟩ := hc O T k k0 k1
  have e1 : mulOk w 48271 = true := mul_ok (by decide)
  have e2 : mulOk 7919 k = true := mul_okL (by decide)
  obtain ⟨aw, haw⟩ : ∃ aw : Int, aw = if w < 0 then -w else w := ⟨_, rfl⟩
  have habs : absB T (.d (.int w)) = .ok (.d (.int aw)) T := by rw [haw]; rfl
  obtain ⟨fb, hfb⟩ : ∃ fb : Bool, fb = decide (1000000000000000000 ≤ aw) := ⟨_, rfl⟩
  have e3 : mulOk aw (if fb = true then 1 else 0) = true := mul_ok (by cases fb <;> decide)
  unfold b12
  refine st_asg (u := .d (.int w)) (T' := T) (by simp [hw]) ?_
  refine st_asg (u := .d (.bool fb)) (T' := T) (by simp [habs, hfb]) ?_
  refine st_ret (u := .ref (O.length + T.length)) (T' := T ++ [.lst [.int (aw * (if fb = true then 1 else 0)), .int ((w * 48271 + 7919 * k + 11) % 2147483629), .bool fb]]) ?_ ⟨rfl, _, ⟨_, _, _, rfl⟩, rfl⟩
  simp [habs, e1, e2, e3, intB, Y.cellOf]
end Lk73

set_option Elab.async false
set_option linter.all false
set_option maxRecDepth 100000
set_option maxHeartbeats 4000000
namespace Lk73
open PySem Y
def nine : List Str := ["number", "copy", "does", "dye", "wash", "if", "to", "call", "return"]
def seventeen : List Str := ["number", "copy", "does", "dye", "wash", "if", "to", "call", "return", "does", "does", "call", "call", "if", "if", "number", "copy"]
theorem sev_nine : ∀ w ∈ seventeen, w ∈ nine := by
  intro w hw
  simp only [seventeen, List.mem_cons, List.not_mem_nil, or_false] at hw
  rcases hw with rfl | rfl | rfl | rfl | rfl | rfl | rfl | rfl | rfl | rfl | rfl | rfl | rfl | rfl | rfl | rfl | rfl <;> simp [nine]
theorem lay_nine : ∀ w ∈ nine, lay 0 (.str w) := by
  intro w hw
  simp only [nine, List.mem_cons, List.not_mem_nil, or_false] at hw
  rcases hw with rfl | rfl | rfl | rfl | rfl | rfl | rfl | rfl | rfl <;> exact ⟨by decide +kernel, Nat.le_refl _⟩
def WdOk (w : Str) (v : Int) : Prop := w ∈ nine ∧ (v = 0 → w = "to")
section
variable {C : Cn} {O T : Cs} {nx bk ct : Rho → Cs → Prop} {rt : U → Cs → Prop}
theorem str_get (ws : List Str) (i : Int) (h0 : 0 ≤ i) (h1 : i < ws.length) : ∃ w ∈ ws, L2.atI (ws.map PyData.str) i = some (.str w) := by
  have hlt : i.toNat < ws.length := by omega
  refine ⟨ws[i.toNat], List.getElem_mem _, ?_⟩
  rw [atI_nat _ _ h0 (by simp; omega), List.getElem?_map, List.getElem?_eq_getElem hlt]
  rfl
end
theorem kind3 (n : Nat) (hn : Next3 (cn G n)) (O T : Cs) (r : Nat) (v : Int) (hs : St3 O T r) : ∃ (w : Str) (T' : Cs), WdOk w v ∧ Mv O T T' ∧ Y.run G (n + 1) O 14 [.ref r, .d (.int v)] T = .ok (.d (.str w)) T' := by
  suffices hg : Gv (Y.run G (n + 1) O 14 [.ref r, .d (.int v)] T) fun u T' => ∃ (w : Str), WdOk w v ∧ Mv O T T' ∧ u = .d (.str w) by
    obtain ⟨u, T', e, w, h1, h2, rfl⟩ := hg.ex
    exact ⟨w, T', h1, h2, e⟩
  refine run_wp G14 rfl ?_
  generalize cn G n = C at hn ⊢
  obtain ⟨c, ⟨a, b, f, rfl⟩, hc⟩ := hs.at_
  have i2 : ixU O (.ref r) (.d (.int 2)) T = some (.d (.bool f)) := ixU_at hc rfl
  unfold b14
  refine st_asg (u := .d (.list (nine.map .str))) (T' := T) (by simp [nine]) ?_
  refine st_ite (T' := T) (decide (v = 0)) (by simp) ?_
  by_cases q : v = 0
  · rw [if_pos (by simp [q])]
    exact st_ret (u := .d (.str "to")) (T' := T) (den_c _ _ _ _ _) ⟨"to", ⟨by simp [nine], fun _ => rfl⟩, Mv.refl _ _, rfl⟩
  rw [if_neg (by simp [q])]
  refine st_nil ?_
  have key : ∀ ws : List Str, (∀ w ∈ ws, w ∈ nine) → 0 < ws.length → ws.length ≤ 20 → Wp (denB C O (.cons (.ret (.ix (.v 2) (.call true 13 (.cons (.v 0) (.cons (.bi false .len (.cons (.v 2) .nil)) .nil)) []))) .nil) [some (.ref r), some (.d (.int v)), some (.d (.list (ws.map .str)))] T) (fun _ T' => ∃ (w : Str), WdOk w v ∧ Mv O T T' ∧ U.d .none = .d (.str w)) (fun _ _ => False) (fun _ _ => False) (fun u T' => ∃ (w : Str), WdOk w v ∧ Mv O T T' ∧ u = .d (.str w)) := by
    intro ws h9 hl hl2
    obtain ⟨i, T1, i0, i1, m1, e1⟩ := hn O T r ws.length hs (by omega) (by omega)
    obtain ⟨w, hw, hat⟩ := str_get ws i i0 i1
    exact st_ret (u := .d (.str w)) (T' := T1) (by simp [e1, hat]) ⟨w, ⟨h9 w hw, fun h => absurd h q⟩, m1, rfl⟩
  refine st_ite (T' := T) (!f) (by simp [i2]) ?_
  cases f with
  | true =>
    rw [if_neg (by decide)]
    exact st_nil (key nine (fun w h => h) (by simp [nine]) (by simp [nine]))
  | false =>
    rw [if_pos (show (!false) = true from rfl)]
    refine st_asg (u := .d (.list (seventeen.map .str))) (T' := T) (by simp [nine, seventeen]) (st_nil ?_)
    exact key seventeen sev_nine (by simp [seventeen]) (by simp [seventeen])
def e15A : CE := (.bi false .tuple (.cons (.comp false (.call true 13 (.cons (.v 0) (.cons (.v 2) .nil)) []) (.nm 7) (.rng1 (.ix (.ix (.v 3) (.v 6)) (.c (.int 0)))) (.c (.bool true)) [7]) .nil))
def b15C : CB := (.cons (.asg (.nm 6) (.call true 13 (.cons (.v 0) (.cons (.bi false .len (.cons (.v 3) .nil)) .nil)) []))
  (.cons (.ret (.tup (.cons (.c (.str "call")) (.cons (.v 5) (.cons (.v 6) (.cons e15A .nil))))))
  .nil))
def b15R : CB := (.cons (.ite (.cmp .eq (.v 1) (.c (.str "number"))) (.cons (.ret (.tup (.cons (.c (.str "number")) (.cons (.v 5) (.cons (.call true 13 (.cons (.v 0) (.cons (.ix (.lst false (.cons (.c (.int 4)) (.cons (.bin false .pow (.c (.int 10)) (.c (.int 18))) .nil))) (.call true 13 (.cons (.v 0) (.cons (.c (.int 2)) .nil)) [])) .nil)) []) .nil)))))
  .nil) .nil)
 (.cons (.ite (.cmp .eq (.v 1) (.c (.str "copy"))) (.cons (.ret (.tup (.cons (.c (.str "copy")) (.cons (.v 5) (.cons (.call true 13 (.cons (.v 0) (.cons (.v 2) .nil)) []) .nil)))))
  .nil) .nil)
 (.cons (.ite (.cmp .eq (.v 1) (.c (.str "does"))) (.cons (.ret (.tup (.cons (.c (.str "does")) (.cons (.v 5) (.cons (.ix (.c (.str "+-*")) (.call true 13 (.cons (.v 0) (.cons (.c (.int 3)) .nil)) [])) (.cons (.call true 13 (.cons (.v 0) (.cons (.v 2) .nil)) []) (.cons (.call true 13 (.cons (.v 0) (.cons (.v 2) .nil)) []) .nil)))))))
  .nil) .nil)
 (.cons (.ite (.cmp .eq (.v 1) (.c (.str "if"))) (.cons (.ret (.tup (.cons (.c (.str "if")) (.cons (.v 5) (.cons (.call true 13 (.cons (.v 0) (.cons (.v 4) .nil)) []) .nil)))))
  .nil) .nil)
 (.cons (.ite (.cmp .eq (.v 1) (.c (.str "call"))) b15C .nil)
 (.cons (.ret (.tup (.cons (.v 1) (.cons (.v 5) .nil))))
 .nil))))))
theorem b15_eq : b15 = (.cons (.ite (.cmp .eq (.v 1) (.c (.str "to"))) (.cons (.ret (.tup (.cons (.c (.str "to")) (.cons (.call true 13 (.cons (.v 0) (.cons (.v 4) .nil)) []) .nil))))
  .nil) .nil)
 (.cons (.asg (.nm 5) (.call true 13 (.cons (.v 0) (.cons (.v 2) .nil)) [])) b15R)) := rfl
theorem lay_of {s : Str} (h : PyData.canLay0 (.str s) = true) : lay 0 (.str s) := ⟨h, Nat.le_refl _⟩
theorem pm_at (O T : Cs) (i : Int) (h0 : 0 ≤ i) (h1 : i < 3) : ∃ op : Fin 3, ixU O (.d (.str "+-*")) (.d (.int i)) T = some (.d (.str (opS3 op))) := by
  have e : ∀ j : Int, ixU O (.d (.str "+-*")) (.d (.int j)) T = (L2.atI ("+-*" : Str).cps.toList j).map fun c => .d (.str ⟨#[c]⟩) := fun j => by
    show (if Y.sizeOk ("+-*" : Str).length then (L2.atI ("+-*" : Str).cps.toList j).map fun c => U.d (.str ⟨#[c]⟩) else none) = _
    rw [if_pos (by decide +kernel)]
  have hc : ("+-*" : Str).cps.toList = [43, 45, 42] := by decide +kernel
  have s0 : (⟨#[43]⟩ : Str) = "+" := by decide +kernel
  have s1 : (⟨#[45]⟩ : Str) = "-" := by decide +kernel
  have s2 : (⟨#[42]⟩ : Str) = "*" := by decide +kernel
  rw [e, hc]
  rcases (by omega : i = 0 ∨ i = 1 ∨ i = 2) with rfl | rfl | rfl
  · exact ⟨0, by show some (U.d (.str ⟨#[43]⟩)) = _; rw [s0]; rfl⟩
  · exact ⟨1, by show some (U.d (.str ⟨#[45]⟩)) = _; rw [s1]; rfl⟩
  · exact ⟨2, by show some (U.d (.str ⟨#[42]⟩)) = _; rw [s2]; rfl⟩
def Row3 (C : Cn) : Prop := ∀ (O T : Cs) (r k : Nat) (hs : List (Int × Int)) (w : Str) (v m : Int), St3 O T r → HdOk hs → 0 < hs.length → hs.length ≤ 6 → getC O T k = some (.lst (hdD hs)) → WdOk w v → 0 ≤ v → v ≤ 4 → 0 < m → m ≤ 100 → ∃ (row : Rw) (T' : Cs), RwD hs v m row ∧ Mv O T T' ∧ C.call O 15 [.ref r, .d (.str w), .d (.int v), .ref k, .d (.int m)] T = .ok (.d row.dd) T'
theorem hd_not (hs : List (Int × Int)) : ¬ IsS (.lst (hdD hs)) := by
  rintro ⟨a, b, f, e⟩
  injection e with e
  cases hs with
  | nil => simp [hdD] at e
  | cons x hs => simp [hdD] at e
theorem row3_run (n : Nat) (hn : Next3 (cn G n)) : Row3 (cn G (n + 1)) := by
  intro O T r k hs w v m hst hok hne h6 hk hw v0 v4 m0 m9
  suffices hg : Gv (Y.run G (n + 1) O 15 [.ref r, .d (.str w), .d (.int v), .ref k, .d (.int m)] T) fun u T' => ∃ row, RwD hs v m row ∧ Mv O T T' ∧ u = .d row.dd by
    obtain ⟨u, T', e, row, h1, h2, rfl⟩ := hg.ex
    exact ⟨row, T', h1, h2, e⟩
  refine run_wp G15 rfl ?_
  generalize cn G n = C at hn ⊢
  have hlw := lay_nine w hw.1
  have ce : ∀ (c : Str), PyData.canLay0 (.str c) = true → ∀ T, cmpU O .eq (.d (.str w)) (.d (.str c)) T = some (decide (w = c)) := fun c hc T => str_eq hlw (lay_of hc)
  rw [b15_eq]
  refine st_ite (T' := T) (decide (w = "to")) (by simp [ce "to" (by decide +kernel)]) ?_
  by_cases q : w = "to"
  · rw [if_pos (by simp [q])]
    obtain ⟨x, T1, a0, a1, m1, e1⟩ := hn O T r m hst m0 (by omega)
    exact st_ret (u := .d (Rw.to x).dd) (T' := T1) (by simp [e1, Rw.dd]) ⟨.to x, ⟨a0, a1⟩, m1, rfl⟩
  rw [if_neg (by simp [q])]
  refine st_nil ?_
  have hv : 0 < v := by
    rcases Int.lt_or_eq_of_le v0 with h | h
    · exact h
    · exact absurd (hw.2 h.symm) q
  obtain ⟨x, T1, x0, x1, m1, e1⟩ := hn O T r v hst hv (by omega)
  have hst1 := hst.mv m1
  refine st_asg (u := .d (.int x)) (T' := T1) (by simp [e1]) ?_
  have hx : InI x v := ⟨x0, x1⟩
  unfold b15R
  refine st_ite (T' := T1) (decide (w = "number")) (by simp [ce "number" (by decide +kernel)]) ?_
  by_cases q1 : w = "number"
  · rw [if_pos (by simp [q1])]
    obtain ⟨b, T2, b0, b1, m2, e2⟩ := hn O T1 r 2 hst1 (by decide) (by decide)
    have hat : ∃ z : Int, L2.atI [PyData.int 4, .int 1000000000000000000] b = some (.int z) ∧ 0 < z ∧ z ≤ 1000000000000000000 := by
      rcases (by omega : b = 0 ∨ b = 1) with rfl | rfl
      · exact ⟨4, rfl, by decide, by decide⟩
      · exact ⟨1000000000000000000, rfl, by decide, by decide⟩
    obtain ⟨z, hat, z0, z1⟩ := hat
    obtain ⟨y, T3, y0, y1, m3, e3⟩ := hn O T2 r z (hst1.mv m2) z0 (by omega)
    exact st_ret (u := .d (Rw.num x y).dd) (T' := T3) (by simp [e2, hat, e3, Rw.dd]) ⟨.num x y, ⟨hx, y0, by omega⟩, m1.trans (m2.trans m3), rfl⟩
  rw [if_neg (by simp [q1])]
  refine st_nil ?_
  refine st_ite (T' := T1) (decide (w = "copy")) (by simp [ce "copy" (by decide +kernel)]) ?_
  by_cases q2 : w = "copy"
  · rw [if_pos (by simp [q2])]
    obtain ⟨y, T2, y0, y1, m2, e2⟩ := hn O T1 r v hst1 hv (by omega)
    exact st_ret (u := .d (Rw.cp x y).dd) (T' := T2) (by simp [e2, Rw.dd]) ⟨.cp x y, ⟨hx, y0, y1⟩, m1.trans m2, rfl⟩
  rw [if_neg (by simp [q2])]
  refine st_nil ?_
  refine st_ite (T' := T1) (decide (w = "does")) (by simp [ce "does" (by decide +kernel)]) ?_
  by_cases q3 : w = "does"
  · rw [if_pos (by simp [q3])]
    obtain ⟨o, T2, o0, o1, m2, e2⟩ := hn O T1 r 3 hst1 (by decide) (by decide)
    obtain ⟨op, hop⟩ := pm_at O T2 o o0 o1
    obtain ⟨y, T3, y0, y1, m3, e3⟩ := hn O T2 r v (hst1.mv m2) hv (by omega)
    obtain ⟨z, T4, z0, z1, m4, e4⟩ := hn O T3 r v ((hst1.mv m2).mv m3) hv (by omega)
    exact st_ret (u := .d (Rw.dz x op y z).dd) (T' := T4) (by simp [e2, hop, e3, e4, Rw.dd]) ⟨.dz x op y z, ⟨hx, ⟨y0, y1⟩, z0, z1⟩, m1.trans (m2.trans (m3.trans m4)), rfl⟩
  rw [if_neg (by simp [q3])]
  refine st_nil ?_
  refine st_ite (T' := T1) (decide (w = "if")) (by simp [ce "if" (by decide +kernel)]) ?_
  by_cases q4 : w = "if"
  · rw [if_pos (by simp [q4])]
    obtain ⟨y, T2, y0, y1, m2, e2⟩ := hn O T1 r m hst1 m0 (by omega)
    exact st_ret (u := .d (Rw.iff x y).dd) (T' := T2) (by simp [e2, Rw.dd]) ⟨.iff x y, ⟨hx, y0, y1⟩, m1.trans m2, rfl⟩
  rw [if_neg (by simp [q4])]
  refine st_nil ?_
  refine st_ite (T' := T1) (decide (w = "call")) (by simp [ce "call" (by decide +kernel)]) ?_
  by_cases q5 : w = "call"
  · rw [if_pos (by simp [q5])]
    have hk1 := m1.get hk (hd_not hs)
    have hl1 : lenB O T1 (.ref k) = .ok (.d (.int hs.length)) T1 := by rw [lenB_ref hk1]; simp [hdD]
    obtain ⟨g, T2, g0, g1, m2, e2⟩ := hn O T1 r hs.length hst1 (by omega) (by omega)
    have hk2 := m2.get hk1 (hd_not hs)
    have hp : hs[g.toNat]? = some hs[g.toNat] := List.getElem?_eq_getElem (by omega)
    have hp2 := hok _ (List.getElem_mem (by omega : g.toNat < hs.length))
    generalize hs[g.toNat] = p at hp hp2
    have hix : ixU O (.ref k) (.d (.int g)) T2 = some (.d (.tuple [.int p.1, .int p.2])) := ixU_at hk2 (hd_at g0 hp)
    unfold b15C
    refine st_asg (u := .d (.int g)) (T' := T2) (by simp [hl1, e2]) ?_
    obtain ⟨vs, T3, hl, hvs, m3, e3⟩ := nexts3 hn O T2 r v (hst1.mv m2) hv (by omega) [some (.ref r), some (.d (.str w)), some (.d (.int v)), some (.ref k), some (.d (.int m)), some (.d (.int x)), some (.d (.int g)), none] 0 2 7 rfl rfl (by decide) (by decide) (by simp) (.ix (.ix (.v 3) (.v 6)) (.c (.int 0))) p.1 (by simp [hix]; rfl) hp2.1 (by omega)
    have e4 : den C O [some (.ref r), some (.d (.str w)), some (.d (.int v)), some (.ref k), some (.d (.int m)), some (.d (.int x)), some (.d (.int g)), none] e15A T2 = .ok (.d (.tuple (vs.map .int))) T3 := by
      unfold e15A
      simp [e3]
    exact st_ret (u := .d (Rw.cl x g vs).dd) (T' := T3) (by simp [e4, Rw.dd]) ⟨.cl x g vs, ⟨hx, hvs, p, g0, hp, hl⟩, m1.trans (m2.trans m3), rfl⟩
  rw [if_neg (by simp [q5])]
  refine st_nil ?_
  have h3 : w = "dye" ∨ w = "wash" ∨ w = "return" := by
    have := hw.1
    simp only [nine, List.mem_cons, List.not_mem_nil, or_false] at this
    rcases this with h | h | h | h | h | h | h | h | h
    · exact absurd h q1
    · exact absurd h q2
    · exact absurd h q3
    · exact .inl h
    · exact .inr (.inl h)
    · exact absurd h q4
    · exact absurd h q
    · exact absurd h q5
    · exact .inr (.inr h)
  rcases h3 with rfl | rfl | rfl
  · exact st_ret (u := .d (Rw.dye x).dd) (T' := T1) (by simp [Rw.dd]) ⟨.dye x, hx, m1, rfl⟩
  · exact st_ret (u := .d (Rw.wash x).dd) (T' := T1) (by simp [Rw.dd]) ⟨.wash x, hx, m1, rfl⟩
  · exact st_ret (u := .d (Rw.ret x).dd) (T' := T1) (by simp [Rw.dd]) ⟨.ret x, hx, m1, rfl⟩
end Lk73

set_option Elab.async false
set_option linter.all false
set_option maxRecDepth 100000
set_option maxHeartbeats 4000000
namespace Lk73
open PySem Y
def b16L : CB := (.cons (.asg (.nm 6) (.call true 13 (.cons (.v 3) (.cons (.bin false .add (.v 2) (.c (.int 1))) .nil)) []))
  (.cons (.ite (.and (.not (.ix (.v 3) (.c (.int 2)))) (.cmp .gt (.call true 13 (.cons (.v 3) (.cons (.c (.int 8)) .nil)) []) (.c (.int 0)))) (.cons (.asg (.nm 6) (.bi false .max2 (.cons (.v 6) (.cons (.c (.int 1)) .nil))))
   .nil) .nil)
  (.cons (.ex (.mt false .append (.v 4) (.cons (.tup (.cons (.call true 13 (.cons (.v 3) (.cons (.bin false .add (.v 6) (.c (.int 1))) .nil)) []) (.cons (.v 6) .nil))) .nil)))
  .nil)))
theorem b16_eq : b16 = (.cons (.asg (.nm 3) (.call true 12 (.cons (.v 0) (.cons (.c (.int 1)) .nil)) []))
 (.cons (.asg (.nm 4) (.lst true .nil))
 (.cons (.for_ (.nm 5) (.rng1 (.bin false .add (.c (.int 1)) (.call true 13 (.cons (.v 3) (.cons (.v 1) .nil)) []))) b16L)
 (.cons (.ret (.v 4))
 .nil)))) := rfl
theorem heads3_run (n : Nat) (ua : U) (hn : Next3 (cn G n)) (hst : State3 (cn G n) ua) (O T : Cs) : ∃ (hs : List (Int × Int)) (k : Nat) (T' : Cs), HdOk hs ∧ 1 ≤ hs.length ∧ hs.length ≤ 6 ∧ O.length + T.length ≤ k ∧ getC O T' k = some (.lst (hdD hs)) ∧ Mv O T T' ∧ Y.run G (n + 1) O 16 [ua, .d (.int 6), .d (.int 4)] T = .ok (.ref k) T' := by
  suffices hg : Gv (Y.run G (n + 1) O 16 [ua, .d (.int 6), .d (.int 4)] T) fun u T' => ∃ hs k, HdOk hs ∧ 1 ≤ hs.length ∧ hs.length ≤ 6 ∧ O.length + T.length ≤ k ∧ getC O T' k = some (.lst (hdD hs)) ∧ Mv O T T' ∧ u = .ref k by
    obtain ⟨u, T', e, hs, k, h1, h2, h3, h4, h5, h6, rfl⟩ := hg.ex
    exact ⟨hs, k, T', h1, h2, h3, h4, h5, h6, e⟩
  refine run_wp G16 rfl ?_
  generalize cn G n = C at hn hst ⊢
  obtain ⟨c, hc, e1⟩ := hst O T 1 (by decide) (by decide)
  obtain ⟨r, hr⟩ : ∃ r, r = O.length + T.length := ⟨_, rfl⟩
  obtain ⟨k, hk⟩ : ∃ k, k = O.length + T.length + 1 := ⟨_, rfl⟩
  rw [← hr] at e1
  rw [b16_eq]
  refine st_asg (u := .ref r) (T' := T ++ [c]) (by simp [e1]) ?_
  refine st_asg (u := .ref k) (T' := (T ++ [c]) ++ [.lst []]) (by simp [hk]; omega) ?_
  have hS0 : St3 O ((T ++ [c]) ++ [.lst []]) r := ⟨by omega, c, hc, getC_app (by rw [hr, getC_k]; simp)⟩
  have hm0 : Mv O T ((T ++ [c]) ++ [.lst []]) := (Mv.app _ _ _).trans (Mv.app _ _ _)
  have hk0 : getC O ((T ++ [c]) ++ [.lst []]) k = some (.lst (hdD [])) := by
    rw [show k = O.length + (T ++ [c]).length by simp; omega, getC_k]
    simp [hdD]
  generalize (T ++ [c]) ++ [Cell.lst []] = T0 at *
  obtain ⟨q, T1, q0, q1, m1, e2⟩ := hn O T0 r 6 hS0 (by decide) (by decide)
  refine st_for ⟨rngU 0 (1 + q).toNat 1, none, T1⟩ T1 (fun i ρ T' => ∃ (hs : List (Int × Int)) (w5 w6 : Option U), HdOk hs ∧ hs.length = i ∧ getC O T' k = some (.lst (hdD hs)) ∧ St3 O T' r ∧ Mv O T T' ∧ ρ = [some ua, some (.d (.int 6)), some (.d (.int 4)), some (.ref r), some (.ref k), w5, w6]) ?_ ⟨[], none, none, by intro x hx; simp at hx, rfl, m1.get hk0 (hd_not []), hS0.mv m1, hm0.trans m1, rfl⟩ (fun _ _ _ _ => rfl) ?_ ?_
  · have hro : rngOk 0 (1 + q) = true := by simp [rngOk]; omega
    rw [denI_rng1]
    simp [e2, hro]
  · rintro i u hu ρ T2 ⟨hs, w5, w6, hok, hl, hgk, hS, hM, rfl⟩
    obtain ⟨hi, rfl⟩ := rngU_get hu
    refine ⟨_, asgT_nm .., ?_⟩
    obtain ⟨v, T3, v0, v1, m3, e3⟩ := hn O T2 r 5 hS (by decide) (by decide)
    have hS3 := hS.mv m3
    unfold b16L
    refine st_asg (u := .d (.int v)) (T' := T3) (by simp [e3]) ?_
    have hlast : ∀ (z : Int) (T4 : Cs) (w5 : Option U), 0 ≤ z → z ≤ 4 → Mv O T2 T4 → Wp (denB C O (.cons (.ex (.mt false .append (.v 4) (.cons (.tup (.cons (.call true 13 (.cons (.v 3) (.cons (.bin false .add (.v 6) (.c (.int 1))) .nil)) []) (.cons (.v 6) .nil))) .nil))) .nil) [some ua, some (.d (.int 6)), some (.d (.int 4)), some (.ref r), some (.ref k), w5, some (.d (.int z))] T4) (fun ρ T' => ∃ (hs : List (Int × Int)) (w5 w6 : Option U), HdOk hs ∧ hs.length = i + 1 ∧ getC O T' k = some (.lst (hdD hs)) ∧ St3 O T' r ∧ Mv O T T' ∧ ρ = [some ua, some (.d (.int 6)), some (.d (.int 4)), some (.ref r), some (.ref k), w5, w6]) (fun ρ T_1 => Wp (denB C O (.cons (.ret (.v 4)) .nil) ρ T_1) (fun _ T' => ∃ hs k, HdOk hs ∧ 1 ≤ hs.length ∧ hs.length ≤ 6 ∧ O.length + T.length ≤ k ∧ getC O T' k = some (.lst (hdD hs)) ∧ Mv O T T' ∧ U.d .none = .ref k) (fun _ _ => False) (fun _ _ => False) (fun u T' => ∃ hs k, HdOk hs ∧ 1 ≤ hs.length ∧ hs.length ≤ 6 ∧ O.length + T.length ≤ k ∧ getC O T' k = some (.lst (hdD hs)) ∧ Mv O T T' ∧ u = .ref k)) (fun ρ T' => ∃ (hs : List (Int × Int)) (w5 w6 : Option U), HdOk hs ∧ hs.length = i + 1 ∧ getC O T' k = some (.lst (hdD hs)) ∧ St3 O T' r ∧ Mv O T T' ∧ ρ = [some ua, some (.d (.int 6)), some (.d (.int 4)), some (.ref r), some (.ref k), w5, w6]) (fun u T' => ∃ hs k, HdOk hs ∧ 1 ≤ hs.length ∧ hs.length ≤ 6 ∧ O.length + T.length ≤ k ∧ getC O T' k = some (.lst (hdD hs)) ∧ Mv O T T' ∧ u = .ref k) := by
      intro z T4 w5 z0 z4 m4
      obtain ⟨g, T5, g0, g1, m5, e5⟩ := hn O T4 r (z + 1) (hS.mv m4) (by omega) (by omega)
      have hk4 := m4.get hgk (hd_not hs)
      have hk5 := m5.get hk4 (hd_not hs)
      have ty4 : tyU O T4 (.ref k) = some .list := by rw [tyU_ref, hk4]
      have happ := app_at (O := O) (PyData.tuple [.int g, .int z]) hk5 (by simp [hdD]; omega) (by omega)
      have M5 := (hM.trans m4).trans m5
      refine st_ex (u := .d .none) (T' := T5.set (k - O.length) (.lst (hdD hs ++ [PyData.tuple [.int g, .int z]]))) (by simp [ty4, -tyU_ref, -appU_eq, e5, happ]) (st_nil ⟨hs ++ [(g, z)], w5, some (.d (.int z)), ?_, by simp [hl], ?_, ?_, ?_, rfl⟩)
      · intro x hx
        rw [List.mem_append] at hx
        rcases hx with hx | hx
        · exact hok x hx
        · simp only [List.mem_singleton] at hx
          subst hx
          exact ⟨g0, by simp only; omega, z4⟩
      · rw [set_get hk5 (by omega)]
        simp [hdD]
      · obtain ⟨c', hc', hg'⟩ := ((hS.mv m4).mv m5).at_
        refine ⟨hS.lo, c', hc', ?_⟩
        rw [get_set_ne (by omega) (by omega)]
        exact hg'
      · exact M5.setk (by omega) _
    obtain ⟨c3, ⟨a3, b3, f3, rfl⟩, hc3⟩ := hS3.at_
    have i2 : ixU O (.ref r) (.d (.int 2)) T3 = some (.d (.bool f3)) := ixU_at hc3 rfl
    cases f3 with
    | true =>
      refine st_ite (T' := T3) false (by simp [i2]) ?_
      rw [if_neg (by decide)]
      exact st_nil (hlast v T3 _ v0 (by omega) m3)
    | false =>
      obtain ⟨y, T4, y0, y1, m4, e4⟩ := hn O T3 r 8 hS3 (by decide) (by decide)
      refine st_ite (T' := T4) (decide (0 < y)) (by simp [i2, e4]) ?_
      by_cases p : 0 < y
      · rw [if_pos (by simp [p])]
        refine st_asg (u := .d (.int (if 1 > v then 1 else v))) (T' := T4) ?_ (st_nil ?_)
        · simp [biU, max2B]
        · refine hlast _ T4 _ ?_ ?_ (m3.trans m4) <;> split <;> omega
      · rw [if_neg (by simp [p])]
        exact st_nil (hlast v T4 _ v0 (by omega) (m3.trans m4))
  · rintro ρ T2 ⟨hs, w5, w6, hok, hl, hgk, hS, hM, rfl⟩
    rw [rngU_len] at hl
    exact st_ret (u := .ref k) (T' := T2) (by simp) ⟨hs, k, hok, by omega, by omega, by omega, hgk, hM, rfl⟩
abbrev Ow := Int × Str × Nat
def owU (x : Ow) : U := .tup [.d (.int x.1), .d (.str x.2.1), .ref x.2.2]
def OwAt (O T : Cs) (k : Nat) (ows : List Ow) : Prop := (ows = [] ∧ getC O T k = some (.lst [])) ∨ getC O T k = some (.lstU (ows.map owU))
theorem OwAt.seq {O T : Cs} {k : Nat} {ows : List Ow} (h : OwAt O T k ows) : seqL O T (.ref k) = some (ows.map owU) := by
  rcases h with ⟨rfl, h⟩ | h
  · simp [h]
  · simp [h]
theorem OwAt.mv {O T T' : Cs} {k : Nat} {ows : List Ow} (h : OwAt O T k ows) (m : Mv O T T') : OwAt O T' k ows := by
  rcases h with ⟨rfl, h⟩ | h
  · exact .inl ⟨rfl, m.get h (by rintro ⟨a, b, f, e⟩; cases e)⟩
  · exact .inr (m.lst h)
theorem OwAt.same {O T T' : Cs} {k : Nat} {ows : List Ow} (h : OwAt O T k ows) (m : Mv O T T') : sameW O T T' (some k) = true := by
  rcases h with ⟨rfl, h⟩ | h
  · exact sameW_refl h (m.get h (by rintro ⟨a, b, f, e⟩; cases e)) (.inl ⟨_, rfl⟩)
  · exact sameW_refl h (m.lst h) (.inr (.inl ⟨_, rfl⟩))
theorem OwAt.ty {O T : Cs} {k : Nat} {ows : List Ow} (h : OwAt O T k ows) : tyU O T (.ref k) = some .list := by
  rcases h with ⟨rfl, h⟩ | h <;> rw [tyU_ref, h]
theorem OwAt.lt {O T : Cs} {k : Nat} {ows : List Ow} (h : OwAt O T k ows) : k < O.length + T.length := by
  rcases h with ⟨rfl, h⟩ | h <;> exact own_lt h
theorem OwAt.app {O T : Cs} {k : Nat} {ows : List Ow} (h : OwAt O T k ows) (lo : O.length ≤ k) (hl : ows.length ≤ 1000) (x : Ow) : ∃ us, appU O k (owU x) T = .ok (.d .none) (T.set (k - O.length) (.lstU us)) ∧ us = (ows ++ [x]).map owU := by
  rcases h with ⟨rfl, h⟩ | h
  · refine ⟨[owU x], ?_, rfl⟩
    rw [appU_eq, h]
    simp only
    rw [if_pos (by simp [Y.sizeOk])]
    unfold owU
    simp only
    unfold setC
    rw [if_pos ⟨lo, own_lt h⟩]
    rfl
  · refine ⟨_, ?_, rfl⟩
    rw [appU_eq, h]
    simp only
    rw [if_pos (by simp [Y.sizeOk]; omega)]
    unfold setC
    rw [if_pos ⟨lo, own_lt h⟩]
    simp
def mineL (ows : List Ow) (f : Int) : List Ow := ows.filter fun x => decide (x.1 = f)
theorem cellOf_at {O T : Cs} {k : Nat} {ows : List Ow} (h : getC O T k = some (Y.cellOf (ows.map owU))) : OwAt O T k ows := by
  cases ows with
  | nil => exact .inl ⟨rfl, h⟩
  | cons x ows => exact .inr h
theorem len_ow {O T : Cs} {k : Nat} {ows : List Ow} (h : OwAt O T k ows) : lenB O T (.ref k) = .ok (.d (.int ows.length)) T := by
  rcases h with ⟨rfl, h⟩ | h
  · rw [lenB_ref h]; rfl
  · rw [lenB_refU h]; simp
def selU (f : Int) : U → Option U := fun u => match u with
  | .tup (.d (.int x) :: _) => if x = f then some u else none
  | _ => none
theorem sel_map (ows : List Ow) (f : Int) : (ows.map owU).filterMap (selU f) = (mineL ows f).map owU := by
  induction ows with
  | nil => rfl
  | cons x ows ih =>
    unfold mineL at ih ⊢
    simp only [List.map_cons, List.filterMap_cons, List.filter_cons]
    have : selU f (owU x) = if x.1 = f then some (owU x) else none := rfl
    rw [this]
    by_cases q : x.1 = f
    · simp [q, ih]
    · simp [q, ih]
/-- the comprehension that picks them -/
theorem mine_comp {C : Cn} {O T : Cs} {k : Nat} {ows : List Ow} (h : OwAt O T k ows) (hl : ows.length ≤ 1000) (f : Int) (ρ : Rho) (j jf jk : Nat) (hk : ρ[jk]? = some (some (.ref k))) (hf : ρ[jf]? = some (some (.d (.int f)))) (hne : j ≠ jf) (hlt : j < ρ.length) :
    den C O ρ (.comp true (.v j) (.nm j) (.lst (.v jk)) (.cmp .eq (.ix (.v j) (.c (.int 0))) (.v jf)) [j]) T = .ok (.ref (O.length + T.length)) (T ++ [Y.cellOf ((mineL ows f).map owU)]) := by
  rw [← sel_map]
  refine comp_l (us := ows.map owU) (w := some k) (tt := T) (selU f) ?_ (fun acc => h.same (Mv.app _ _ _)) ?_ (by simp; omega)
  · rw [denI_lst, den_v, hk]
    simp only [R.bind_ok, h.seq]
    rfl
  · intro u hu acc
    obtain ⟨x, hx, rfl⟩ := List.mem_map.mp hu
    have g1 : ((wipeR ρ [j]).set j (some (owU x)))[j]? = some (some (owU x)) := by
      simp only [wipeR]
      rw [List.getElem?_set_self (by simpa using hlt)]
    have g2 : ((wipeR ρ [j]).set j (some (owU x)))[jf]? = some (some (.d (.int f))) := by
      simp only [wipeR]
      rw [List.getElem?_set_ne hne, List.getElem?_set_ne hne, hf]
    have i0 : ixU O (owU x) (.d (.int 0)) (T ++ [.lstU acc]) = some (.d (.int x.1)) := rfl
    refine ⟨(wipeR ρ [j]).set j (some (owU x)), asgT_nm .., ?_⟩
    have hs : selU f (owU x) = if x.1 = f then some (owU x) else none := rfl
    rw [hs]
    have ht : den C O ((wipeR ρ [j]).set j (some (owU x))) (.cmp .eq (.ix (.v j) (.c (.int 0))) (.v jf)) (T ++ [.lstU acc]) = .ok (.d (.bool (decide (x.1 = f)))) (T ++ [.lstU acc]) := by
      simp only [den_cmp, den_ix, den_v, den_c, g1, g2, R.bind_ok, i0, ofO_some, cmp_eqI]
    by_cases q : x.1 = f
    · rw [if_pos q]
      rw [decide_eq_true q] at ht
      exact ⟨ht, by rw [den_v, g1]⟩
    · rw [if_neg q]
      rw [decide_eq_false q] at ht
      exact ht
end Lk73

set_option Elab.async false
set_option linter.all false
set_option maxRecDepth 100000
set_option maxHeartbeats 4000000
namespace Lk73
open PySem Y
def Kind3 (C : Cn) : Prop := ∀ (O T : Cs) (r : Nat) (v : Int), St3 O T r → ∃ (w : Str) (T' : Cs), WdOk w v ∧ Mv O T T' ∧ C.call O 14 [.ref r, .d (.int v)] T = .ok (.d (.str w)) T'
def b17A : CB := (.cons (.ex (.mt false .append (.v 3) (.cons (.tup (.cons (.v 7) (.cons (.v 8) (.cons (.v 6) .nil)))) .nil)))
   .nil)
def b17B : CB := (.cons (.asg (.nm 4) (.bin false .sub (.bin false .sub (.v 4) (.c (.int 1))) (.bi false .int (.cons (.cmp .eq (.v 8) (.c (.str "if"))) .nil))))
   .nil)
def b17T : CE := (.and (.cmp .le (.v 4) (.c (.int 24))) (.cmp .lt (.bi false .len (.cons (.comp true (.v 9) (.nm 9) (.lst (.v 3)) (.cmp .eq (.ix (.v 9) (.c (.int 0))) (.v 7)) [9]) .nil)) (.c (.int 8))))
def b17L : CB := (.cons (.asg (.nm 6) (.call true 12 (.cons (.v 0) (.cons (.v 5) .nil)) []))
  (.cons (.asg (.nm 7) (.call true 13 (.cons (.v 6) (.cons (.bi false .len (.cons (.v 1) .nil)) .nil)) []))
  (.cons (.asg (.nm 8) (.call true 14 (.cons (.v 6) (.cons (.ix (.ix (.v 1) (.v 7)) (.c (.int 1))) .nil)) []))
  (.cons (.asg (.nm 4) (.bin false .add (.bin false .add (.v 4) (.c (.int 1))) (.bi false .int (.cons (.cmp .eq (.v 8) (.c (.str "if"))) .nil))))
  (.cons (.ite b17T b17A b17B)
  .nil)))))
theorem b17_eq : b17 = (.cons (.asg (.nm 3) (.lst true .nil))
 (.cons (.asg (.nm 4) (.bi false .len (.cons (.v 1) .nil)))
 (.cons (.for_ (.nm 5) (.lst (.v 2)) b17L)
 (.cons (.ret (.v 3))
 .nil)))) := rfl
structure OwOk (O T : Cs) (hs : List (Int × Int)) (x : Ow) : Prop where
  f0 : 0 ≤ x.1
  f1 : ∃ p, hs[x.1.toNat]? = some p ∧ WdOk x.2.1 p.2
  s : St3 O T x.2.2
theorem OwOk.mv {O T T' : Cs} {hs : List (Int × Int)} {x : Ow} (h : OwOk O T hs x) (m : Mv O T T') : OwOk O T' hs x := ⟨h.f0, h.f1, h.s.mv m⟩
structure OwsOk (O T : Cs) (hs : List (Int × Int)) (ows : List Ow) : Prop where
  ok : ∀ x ∈ ows, OwOk O T hs x
  m8 : ∀ f, (mineL ows f).length ≤ 8
theorem OwsOk.mv {O T T' : Cs} {hs : List (Int × Int)} {ows : List Ow} (h : OwsOk O T hs ows) (m : Mv O T T') : OwsOk O T' hs ows := ⟨fun x hx => (h.ok x hx).mv m, h.m8⟩
section
variable {C : Cn} {O : Cs} {ua : U}
def PlI (O T0 : Cs) (k k3 : Nat) (hs : List (Int × Int)) (ua cu : U) (i : Nat) (ρ : Rho) (T : Cs) : Prop :=
  ∃ ows e w5 w6 w7 w8 w9, OwAt O T k3 ows ∧ ows.length ≤ i ∧ OwsOk O T hs ows ∧ getC O T k = some (.lst (hdD hs)) ∧ Mv O T0 T ∧ ρ = [some ua, some (.ref k), some cu, some (.ref k3), some (.d (.int e)), w5, w6, w7, w8, w9]
theorem place_turn (hn : Next3 C) (hst : State3 C ua) (hkd : Kind3 C) (T0 : Cs) (k k3 : Nat) (hk3 : O.length + T0.length ≤ k3) (hs : List (Int × Int)) (hok : HdOk hs) (hne : 0 < hs.length) (h6 : hs.length ≤ 6) (cu : U) (i : Nat) (hi : i < 100) (a : Int) (a0 : 0 ≤ a) (a1 : a ≤ 100) (ρ : Rho) (T : Cs) (hI : PlI O T0 k k3 hs ua cu i ρ T) {nx : Rho → Cs → Prop} {rt : U → Cs → Prop} :
    ∃ ρ1, asgT O T (.nm 5) (.d (.int a)) ρ = some ρ1 ∧ Wp (denB C O b17L ρ1 T) (PlI O T0 k k3 hs ua cu (i + 1)) nx (PlI O T0 k k3 hs ua cu (i + 1)) rt := by
  obtain ⟨ows, e, w5, w6, w7, w8, w9, hA, hl, hO, hg, hM, rfl⟩ := hI
  refine ⟨_, asgT_nm .., ?_⟩
  obtain ⟨c, hc, e1⟩ := hst O T a a0 a1
  obtain ⟨r, hr⟩ : ∃ r, r = O.length + T.length := ⟨_, rfl⟩
  rw [← hr] at e1
  have mA := Mv.app O T [c]
  have hS : St3 O (T ++ [c]) r := ⟨by omega, c, hc, by rw [hr, getC_k]; simp⟩
  have hg1 := mA.get hg (hd_not hs)
  have hl1 : lenB O (T ++ [c]) (.ref k) = .ok (.d (.int hs.length)) (T ++ [c]) := by rw [lenB_ref hg1]; simp [hdD]
  generalize T ++ [c] = T1 at *
  unfold b17L
  refine st_asg (u := .ref r) (T' := T1) (by simp [e1]) ?_
  obtain ⟨f, T2, f0, f1, m2, e2⟩ := hn O T1 r hs.length hS (by omega) (by omega)
  refine st_asg (u := .d (.int f)) (T' := T2) (by simp [hl1, e2]) ?_
  have hp : hs[f.toNat]? = some hs[f.toNat] := List.getElem?_eq_getElem (by omega)
  generalize hs[f.toNat] = p at hp
  have hg2 := m2.get hg1 (hd_not hs)
  have hix : ixU O (.ref k) (.d (.int f)) T2 = some (.d (.tuple [.int p.1, .int p.2])) := ixU_at hg2 (hd_at f0 hp)
  have hx1 : L2.atI [PyData.int p.1, .int p.2] 1 = some (.int p.2) := rfl
  obtain ⟨w, T3, hw, m3, e3⟩ := hkd O T2 r p.2 (hS.mv m2)
  refine st_asg (u := .d (.str w)) (T' := T3) (by simp [hix, hx1, e3]) ?_
  have hq : ∀ T, cmpU O .eq (.d (.str w)) (.d (.str "if")) T = some (decide (w = "if")) := fun T => str_eq (lay_nine w hw.1) (lay_of (by decide +kernel))
  obtain ⟨b, hb⟩ : ∃ b : Bool, b = decide (w = "if") := ⟨_, rfl⟩
  simp only [← hb] at hq
  refine st_asg (u := .d (.int (e + 1 + (if b = true then 1 else 0)))) (T' := T3) (by simp [hq, intB]) ?_
  have m03 := (mA.trans m2).trans m3
  have hA3 := hA.mv m03
  have hO3 := hO.mv m03
  have hg3 := m3.get hg2 (hd_not hs)
  have hS3 := (hS.mv m2).mv m3
  have M3 := hM.trans m03
  obtain ⟨e', he'⟩ : ∃ e' : Int, e' = e + 1 + (if b = true then 1 else 0) := ⟨_, rfl⟩
  rw [← he']
  have hlose : ∀ T4, Mv O T3 T4 → Wp (denB C O b17B [some ua, some (.ref k), some cu, some (.ref k3), some (.d (.int e')), some (.d (.int a)), some (.ref r), some (.d (.int f)), some (.d (.str w)), w9] T4) (fun ρ T => Wp (denB C O .nil ρ T) (PlI O T0 k k3 hs ua cu (i + 1)) nx (PlI O T0 k k3 hs ua cu (i + 1)) rt) nx (PlI O T0 k k3 hs ua cu (i + 1)) rt := by
    intro T4 m4
    unfold b17B
    refine st_asg (u := .d (.int (e' - 1 - (if b = true then 1 else 0)))) (T' := T4) (by simp [hq, intB]) (st_nil (st_nil ?_))
    exact ⟨ows, _, _, _, _, _, _, hA3.mv m4, by omega, hO3.mv m4, m4.get hg3 (hd_not hs), M3.trans m4, rfl⟩
  by_cases q : e' ≤ 24
  · have hmc := mine_comp (C := C) hA3 (by omega) f [some ua, some (.ref k), some cu, some (.ref k3), some (.d (.int e')), some (.d (.int a)), some (.ref r), some (.d (.int f)), some (.d (.str w)), w9] 9 7 3 rfl rfl (by decide) (by simp)
    have m4 := Mv.app O T3 [Y.cellOf ((mineL ows f).map owU)]
    have hlen := len_ow (O := O) (T := T3 ++ [Y.cellOf ((mineL ows f).map owU)]) (k := O.length + T3.length) (ows := mineL ows f) (cellOf_at (by rw [getC_k]; simp))
    generalize T3 ++ [Y.cellOf ((mineL ows f).map owU)] = T4 at *
    refine st_ite (T' := T4) (decide ((mineL ows f).length < 8)) ?_ ?_
    · unfold b17T
      simp [q, hmc, hlen, -lenB_T]
      omega
    by_cases q2 : (mineL ows f).length < 8
    · rw [if_pos (by simp [q2])]
      have hA4 := hA3.mv m4
      obtain ⟨us, e5, hus⟩ := hA4.app (by omega) (by omega) (f, w, r)
      have M4 := M3.trans m4
      have lo3 : O.length ≤ k3 := by omega
      have hgk : ∀ j, j ≠ k3 → getC O (T4.set (k3 - O.length) (.lstU us)) j = getC O T4 j := fun j hj => get_set_ne lo3 hj
      have hset : getC O (T4.set (k3 - O.length) (.lstU us)) k3 = some (.lstU us) := by
        rcases hA4 with ⟨_, h⟩ | h <;> exact set_get h lo3
      have hne3 : k ≠ k3 := by
        intro hh
        subst hh
        rcases hA4 with ⟨_, h⟩ | h
        · rw [m4.get hg3 (hd_not hs)] at h
          injection h with h
          injection h with h
          have h0 : (hdD hs).length = hs.length := by simp [hdD]
          rw [h, List.length_nil] at h0
          omega
        · rw [m4.get hg3 (hd_not hs)] at h
          cases h
      unfold b17A
      refine st_ex (u := .d .none) (T' := T4.set (k3 - O.length) (.lstU us)) ?_ (st_nil (st_nil ?_))
      · have ty := hA4.ty
        have e5' : appU O k3 (.tup [.d (.int f), .d (.str w), .ref r]) T4 = .ok (.d .none) (T4.set (k3 - O.length) (.lstU us)) := e5
        simp [ty, -tyU_ref, -appU_eq, mkT_eq, e5']
      · have hSt : ∀ z, St3 O T4 z → St3 O (T4.set (k3 - O.length) (.lstU us)) z := fun z hz => by
          obtain ⟨c', h1, h2⟩ := hz.at_
          refine ⟨hz.lo, c', h1, ?_⟩
          rw [hgk z ?_]
          · exact h2
          · intro hh
            subst hh
            obtain ⟨_, _, _, rfl⟩ := h1
            rcases hA4 with ⟨_, h⟩ | h
            · rw [h2] at h; cases h
            · rw [h2] at h; cases h
        refine ⟨ows ++ [(f, w, r)], e', _, _, _, _, _, .inr (by rw [hset, hus]), by simp; omega, ⟨fun x hx => ?_, fun g => ?_⟩, ?_, M4.setk hk3 _, rfl⟩
        · rw [List.mem_append] at hx
          rcases hx with hx | hx
          · have := (hO3.mv m4).ok x hx
            exact ⟨this.f0, this.f1, hSt _ this.s⟩
          · simp only [List.mem_singleton] at hx
            subst hx
            exact ⟨f0, ⟨p, hp, hw⟩, hSt _ (hS3.mv m4)⟩
        · unfold mineL at q2 ⊢
          rw [List.filter_append, List.length_append]
          have := hO.m8 g
          unfold mineL at this
          by_cases qq : f = g
          · subst qq
            simp
            omega
          · simp [qq]
            exact this
        · rw [hgk k hne3]
          exact m4.get hg3 (hd_not hs)
    · rw [if_neg (by simp [q2])]
      exact hlose T4 m4
  · refine st_ite (T' := T3) false (by unfold b17T; simp [q]) ?_
    rw [if_neg (by decide)]
    exact hlose T3 (Mv.refl _ _)
end
theorem places3_run (n : Nat) (ua : U) (hn : Next3 (cn G n)) (hst : State3 (cn G n) ua) (hkd : Kind3 (cn G n)) (O T : Cs) (k : Nat) (hs : List (Int × Int)) (hok : HdOk hs) (hne : 0 < hs.length) (h6 : hs.length ≤ 6) (hk : getC O T k = some (.lst (hdD hs))) (cells : List Int) (hc : ∀ a ∈ cells, 0 ≤ a ∧ a ≤ 100) (hcl : cells.length ≤ 100) : ∃ (ows : List Ow) (k3 : Nat) (T' : Cs), OwAt O T' k3 ows ∧ ows.length ≤ 100 ∧ OwsOk O T' hs ows ∧ O.length + T.length ≤ k3 ∧ Mv O T T' ∧ Y.run G (n + 1) O 17 [ua, .ref k, .d (.list (cells.map .int))] T = .ok (.ref k3) T' := by
  suffices hg : Gv (Y.run G (n + 1) O 17 [ua, .ref k, .d (.list (cells.map .int))] T) fun u T' => ∃ ows k3, OwAt O T' k3 ows ∧ ows.length ≤ 100 ∧ OwsOk O T' hs ows ∧ O.length + T.length ≤ k3 ∧ Mv O T T' ∧ u = .ref k3 by
    obtain ⟨u, T', e, ows, k3, h1, h2, h3, h4, h5, rfl⟩ := hg.ex
    exact ⟨ows, k3, T', h1, h2, h3, h4, h5, e⟩
  refine run_wp G17 rfl ?_
  generalize cn G n = C at hn hst hkd ⊢
  obtain ⟨k3, hk3⟩ : ∃ k3, k3 = O.length + T.length := ⟨_, rfl⟩
  have hm0 := Mv.app O T [.lst []]
  have hg0 := hm0.get hk (hd_not hs)
  have hl0 : lenB O (T ++ [.lst []]) (.ref k) = .ok (.d (.int hs.length)) (T ++ [.lst []]) := by rw [lenB_ref hg0]; simp [hdD]
  have hA0 : OwAt O (T ++ [.lst []]) k3 [] := .inl ⟨rfl, by rw [hk3, getC_k]; simp⟩
  rw [b17_eq]
  refine st_asg (u := .ref k3) (T' := T ++ [.lst []]) (by simp [hk3]) ?_
  refine st_asg (u := .d (.int hs.length)) (T' := T ++ [.lst []]) (by simp [hl0]) ?_
  generalize T ++ [Cell.lst []] = T0 at *
  refine st_for ⟨(cells.map PyData.int).map U.d, none, T0⟩ T0 (PlI O T k k3 hs ua (.d (.list (cells.map .int)))) (by simp) ⟨[], _, _, _, _, _, _, hA0, by simp, ⟨by intro x hx; simp at hx, fun f => by simp [mineL]⟩, hg0, hm0, rfl⟩ (fun _ _ _ _ => rfl) ?_ ?_
  · intro i u hu ρ T1 hI
    rw [List.getElem?_map, List.getElem?_map] at hu
    cases ha : cells[i]? with
    | none => simp [ha] at hu
    | some a =>
      simp [ha] at hu
      subst hu
      have hi := (List.getElem?_eq_some_iff.mp ha).1
      have hb := hc a (List.mem_of_getElem? ha)
      exact place_turn hn hst hkd T k k3 (by omega) hs hok hne h6 _ i (by omega) a hb.1 hb.2 ρ T1 hI
  · rintro ρ T1 ⟨ows, e, w5, w6, w7, w8, w9, hA, hl, hO, hg, hM, rfl⟩
    simp only [List.length_map] at hl
    exact st_ret (u := .ref k3) (T' := T1) (by simp) ⟨ows, k3, hA, by omega, hO, by omega, hM, rfl⟩
end Lk73

set_option Elab.async false
set_option linter.all false
set_option maxRecDepth 100000
set_option maxHeartbeats 4000000
namespace Lk73
open PySem Y
def e18M : CE := (.comp true (.v 15) (.nm 15) (.lst (.v 5)) (.cmp .eq (.ix (.v 15) (.c (.int 0))) (.v 8)) [15])
def e18R : CE := (.comp false (.call true 15 (.cons (.ix (.v 15) (.c (.int 2))) (.cons (.ix (.v 15) (.c (.int 1))) (.cons (.v 10) (.cons (.v 4) (.cons (.bin false .add (.bi false .len (.cons (.v 11) .nil)) (.c (.int 1))) .nil))))) []) (.nm 15) (.lst (.v 11)) (.c (.bool true)) [15])
def e18N : CE := (.comp false (.bin false .mul (.ix (.c (.str "abcd")) (.v 16)) (.bin false .add (.c (.int 1)) (.v 8))) (.nm 16) (.rng1 (.v 10)) (.c (.bool true)) [16])
def b18A : CB := (.cons (.asg (.nm 14) (.bi false .tuple (.cons e18N .nil)))
  (.cons (.ex (.mt false .append (.v 7) (.cons (.tup (.cons (.bin false .add (.c (.str "f")) (.bin false .mul (.c (.str "g")) (.v 8))) (.cons (.v 9) (.cons (.v 14) (.cons (.bi false .tuple (.cons (.bin false .add (.v 12) (.lst false (.cons (.v 13) .nil))) .nil)) .nil))))) .nil)))
  .nil))
def b18T : CB := (.cons (.asg (.nm 13) (.tup (.cons (.c (.str "return")) (.cons (.call true 13 (.cons (.v 6) (.cons (.v 10) .nil)) []) .nil))))
   .nil)
def b18E : CB := (.cons (.asg (.nm 13) (.tup (.cons (.c (.str "to")) (.cons (.call true 13 (.cons (.v 6) (.cons (.bin false .add (.bi false .len (.cons (.v 11) .nil)) (.c (.int 1))) .nil)) []) .nil))))
  (.cons (.ite (.and (.cmp .gt (.v 10) (.c (.int 0))) (.cmp .gt (.call true 13 (.cons (.v 6) (.cons (.c (.int 4)) .nil)) []) (.c (.int 0)))) b18T .nil) b18A))
def b18L : CB := (.cons (.asg (.tp (.cons (.nm 9) (.cons (.nm 10) .nil))) (.ix (.v 4) (.v 8)))
  (.cons (.asg (.nm 11) e18M)
  (.cons (.asg (.nm 12) e18R) b18E)))
theorem b18_eq : b18 = (.cons (.asg (.nm 4) (.call true 16 (.cons (.v 0) (.cons (.v 1) (.cons (.v 2) .nil))) []))
 (.cons (.asg (.nm 5) (.call true 17 (.cons (.v 0) (.cons (.v 4) (.cons (.v 3) .nil))) []))
 (.cons (.asg (.nm 6) (.call true 12 (.cons (.v 0) (.cons (.c (.int 2)) .nil)) []))
 (.cons (.asg (.nm 7) (.lst true .nil))
 (.cons (.for_ (.nm 8) (.rng1 (.bi false .len (.cons (.v 4) .nil))) b18L)
 (.cons (.ret (.v 7))
 .nil)))))) := rfl
section
variable {C : Cn} {O T : Cs}
theorem rows3_ok (hr : Row3 C) (hs : List (Int × Int)) (hok : HdOk hs) (hne : 0 < hs.length) (h6 : hs.length ≤ 6) (k4 k11 : Nat) (h4 : getC O T k4 = some (.lst (hdD hs))) (ows : List Ow) (hA : OwAt O T k11 ows) (hO : ∀ x ∈ ows, OwOk O T hs x) (v : Int) (v0 : 0 ≤ v) (v4 : v ≤ 4) (hv : ∀ x ∈ ows, WdOk x.2.1 v) (hl : ows.length ≤ 8) (y0 y1 y2 y3 y5 y6 y7 y8 y9 y12 y13 y14 y15 y16 : Option U) :
    ∃ (rows : List Rw) (T' : Cs), rows.length = ows.length ∧ (∀ row ∈ rows, RwD hs v (1 + (ows.length : Int)) row) ∧ Mv O T T' ∧ den C O [y0, y1, y2, y3, some (.ref k4), y5, y6, y7, y8, y9, some (.d (.int v)), some (.ref k11), y12, y13, y14, y15, y16] e18R T = .ok (.d (.list (rows.map Rw.dd))) T' := by
  unfold e18R
  have he : denI C O [y0, y1, y2, y3, some (.ref k4), y5, y6, y7, y8, y9, some (.d (.int v)), some (.ref k11), y12, y13, y14, y15, y16] (.lst (.v 11)) T = .ok ⟨ows.map owU, some k11, T⟩ T := by
    rw [denI_lst, den_v]
    simp only [List.getElem?_cons_succ, List.getElem?_cons_zero, R.bind_ok, hA.seq]
    rfl
  obtain ⟨acc, T', ⟨rows, rfl, h1, h2, h3, h5⟩, ee⟩ := comp_w (C := C) (O := O) (live := false) (elt := .call true 15 (.cons (.ix (.v 15) (.c (.int 2))) (.cons (.ix (.v 15) (.c (.int 1))) (.cons (.v 10) (.cons (.v 4) (.cons (.bin false .add (.bi false .len (.cons (.v 11) .nil)) (.c (.int 1))) .nil))))) []) (g := .nm 15) (t := .c (.bool true)) (own := [15])
    (fun i acc T' => ∃ (rows : List Rw), acc = (rows.map Rw.dd).map U.d ∧ rows.length = i ∧ (∀ row ∈ rows, RwD hs v (1 + (ows.length : Int)) row) ∧ Mv O T T' ∧ getC O T' (O.length + T.length) = some (.lstU acc)) he
    ⟨[], rfl, rfl, by simp, Mv.app _ _ _, by rw [getC_k]; simp⟩
    (fun i acc T' ⟨rows, h1, h2, _, h3, h5⟩ => by
      rw [getC_k] at h5
      exact ⟨h5, hA.same h3, by rw [h1]; simp; omega⟩)
    (fun i u hu acc T' ⟨rows, h1, h2, h3, h5, h6'⟩ => by
      rw [List.getElem?_map] at hu
      cases hx : ows[i]? with
      | none => simp [hx] at hu
      | some x =>
        simp [hx] at hu
        subst hu
        have hmem := List.mem_of_getElem? hx
        have hxo := (hO x hmem).mv h5
        have g4 := h5.get h4 (hd_not hs)
        have hlen := len_ow (hA.mv h5)
        obtain ⟨row, T1, q1, m1, e1⟩ := hr O T' x.2.2 k4 hs x.2.1 v ((ows.length : Int) + 1) hxo.s hok hne h6 g4 (hv x hmem) v0 v4 (by omega) (by omega)
        have h7 := m1.lst h6'
        have i2 : ixU O (owU x) (.d (.int 2)) T' = some (.ref x.2.2) := rfl
        have i1 : ixU O (owU x) (.d (.int 1)) T' = some (.d (.str x.2.1)) := rfl
        refine ⟨_, asgT_nm .., true, T', den_c .., fun hh => (by cases hh), fun _ => ⟨.d row.dd, T1, ?_, by rw [getC_k] at h7; exact h7, rows ++ [row], by simp [h1], by simp [h2], ?_, (h5.trans m1).setb (Nat.le_refl _) _, ?_⟩⟩
        · simp [wipeR, i1, i2, hlen, -lenB_T, e1]
        · intro z hz
          rw [List.mem_append] at hz
          rcases hz with hz | hz
          · exact h3 z hz
          · simp only [List.mem_singleton] at hz
            subst hz
            have e : 1 + (ows.length : Int) = (ows.length : Int) + 1 := by omega
            rw [e]
            exact q1
        · have := set_get (c' := .lstU (acc ++ [U.d row.dd])) h7 (Nat.le_add_right _ _)
          rw [show O.length + T.length - O.length = T.length by omega] at this
          exact this)
    (by simp; omega)
  simp only [List.length_map] at h1
  rw [getC_k] at h5
  obtain ⟨T'', e2, hT⟩ := compE_f (O := O) (T0 := T) h5
  rw [e2] at ee
  rcases hT with rfl | rfl
  · exact ⟨rows, T'', h1, h2, Mv.refl _ _, ee⟩
  · exact ⟨rows, _, h1, h2, h3.setb (Nat.le_refl _) _, ee⟩
theorem names3_ok (v f : Int) (v0 : 0 ≤ v) (v4 : v ≤ 4) (f0 : 0 ≤ f) (f6 : f < 6) (y0 y1 y2 y3 y4 y5 y6 y7 y9 y11 y12 y13 y14 y15 y16 : Option U) :
    ∃ vars : List Str, (∀ s ∈ vars, lay 0 (.str s)) ∧ (vars.length : Int) = v ∧ den C O [y0, y1, y2, y3, y4, y5, y6, y7, some (.d (.int f)), y9, some (.d (.int v)), y11, y12, y13, y14, y15, y16] e18N T = .ok (.d (.list (vars.map .str))) T := by
  unfold e18N
  have he : denI C O [y0, y1, y2, y3, y4, y5, y6, y7, some (.d (.int f)), y9, some (.d (.int v)), y11, y12, y13, y14, y15, y16] (.rng1 (.v 10)) T = .ok ⟨rngU 0 v.toNat 1, none, T⟩ T := Y.rng1_ok (z := v) (by simp) (by simp [rngOk]; omega) rfl
  have hly : ∀ i, i < 4 → ∀ n, n < 7 → PyData.canLay0 (.str (repS ⟨#[abc i]⟩ n)) = true := by decide +kernel
  refine ⟨(List.range v.toNat).map fun i : Nat => repS ⟨#[abc i]⟩ (1 + f).toNat, fun s hs => by
    obtain ⟨i, hi, rfl⟩ := List.mem_map.mp hs
    rw [List.mem_range] at hi
    exact lay_s (hly i (by omega) _ (by omega)), by simp; omega, comp_m he (fun _ => rfl) (by simp [rngU_len]) ?_ (by rw [rngU_len]; omega)⟩
  intro i u d h1 h2 acc
  obtain ⟨hi, rfl⟩ := rngU_get h1
  have hii : (0 + (i : Int) * 1) = (i : Int) := by omega
  rw [hii]
  simp [hi] at h2
  subst h2
  have h4 := abcd_at O (T ++ [.lstU acc]) i (by omega)
  have h5 := binU_smul (O := O) (T := T ++ [.lstU acc]) (l := false) ⟨#[abc i]⟩ (1 + f) (by omega) (by omega) (by show (1 : Nat) ≤ 1000; decide) (Nat.le_refl _)
  exact ⟨[y0, y1, y2, y3, y4, y5, y6, y7, some (.d (.int f)), y9, some (.d (.int v)), y11, y12, y13, y14, y15, some (.d (.int (i : Int)))], by simp [wipeR], by simp, by simp [h4, h5]⟩
theorem put3 (v f g : Int) (v0 : 0 ≤ v) (v4 : v ≤ 4) (f0 : 0 ≤ f) (f6 : f < 6) (g0 : 0 ≤ g) (k7 : Nat) (hs : List (Int × Int)) (ds : List D) (hk7 : getC O T k7 = some (.lst ds)) (h7 : O.length ≤ k7) (hds : ds.length ≤ 100) (rows : List Rw) (last : Rw) (hr9 : rows.length ≤ 8) (hrw : ∀ row ∈ rows, RwD hs v (1 + (rows.length : Int)) row) (hl : RwD hs v (1 + (rows.length : Int)) last) (hll : (∃ r, last = .to r) ∨ ∃ x, last = .ret x) (y0 y1 y2 y3 y4 y5 y6 y11 y14 y15 y16 : Option U) {nx bk ct : Rho → Cs → Prop} {rt : U → Cs → Prop}
    (h : ∀ (fn : Fn) (u : U), FnD hs (g, v) fn → nx [y0, y1, y2, y3, y4, y5, y6, some (.ref k7), some (.d (.int f)), some (.d (.int g)), some (.d (.int v)), y11, some (.d (.list (rows.map Rw.dd))), some (.d last.dd), some u, y15, y16] (T.set (k7 - O.length) (.lst (ds ++ [fn.dd])))) :
    Wp (denB C O b18A [y0, y1, y2, y3, y4, y5, y6, some (.ref k7), some (.d (.int f)), some (.d (.int g)), some (.d (.int v)), y11, some (.d (.list (rows.map Rw.dd))), some (.d last.dd), y14, y15, y16] T) nx bk ct rt := by
  obtain ⟨vars, hvs, hvl, hv⟩ := names3_ok (C := C) (O := O) (T := T) v f v0 v4 f0 f6 y0 y1 y2 y3 y4 y5 y6 (some (.ref k7)) (some (.d (.int g))) y11 (some (.d (.list (rows.map Rw.dd)))) (some (.d last.dd)) y14 y15 y16
  obtain ⟨nm, hns, hnm⟩ := f_name O T f f0 f6
  have ty7 : tyU O T (.ref k7) = some .list := by rw [tyU_ref, hk7]
  have happ := fun v => app_at (O := O) v hk7 (by omega) h7
  obtain ⟨fn, hfn⟩ : ∃ fn : Fn, fn = ⟨nm, g.toNat, vars, rows ++ [last]⟩ := ⟨_, rfl⟩
  have hdd : fn.dd = .tuple [.str nm, .int g, .tuple (vars.map .str), .tuple (rows.map Rw.dd ++ [last.dd])] := by
    rw [hfn]
    simp [Fn.dd]
    omega
  have hD : FnD hs (g, v) fn := by
    rw [hfn]
    refine ⟨by simp; omega, hvl, by simp, by simp; omega, ⟨hns, hvs⟩, fun a row ha => ?_⟩
    simp only [List.length_append, List.length_singleton]
    have e : ((rows.length + 1 : Nat) : Int) = 1 + (rows.length : Int) := by omega
    rw [e]
    by_cases q : a < rows.length
    · rw [List.getElem?_append_left q] at ha
      exact ⟨hrw _ (List.mem_of_getElem? ha), .inl (by omega)⟩
    · rw [List.getElem?_append_right (by omega)] at ha
      have ha2 := List.mem_of_getElem? ha
      simp only [List.mem_singleton] at ha2
      subst ha2
      exact ⟨hl, .inr hll⟩
  have := h fn (.d (.tuple (vars.map .str))) hD
  unfold b18A
  refine st_asg (u := .d (.tuple (vars.map .str))) (T' := T) (by simp only [den_bi, denA_cons, hv, R.bind_ok, denA_nil, biU_tuple, one_one, tupleB_L]) ?_
  refine st_ex (u := .d .none) (T' := T.set (k7 - O.length) (.lst (ds ++ [fn.dd]))) ?_ (st_nil this)
  rw [hdd]
  have hsz : rows.length ≤ 999999 := by omega
  have hn1 := (hnm false false).1
  have hn2 := (hnm false false).2
  clear h this hv hdd hfn
  simp [ty7, -tyU_ref, -appU_eq, hn1, hn2, -binU_str, happ, hsz]
theorem fn3_turn (hn : Next3 C) (hr : Row3 C) (hs : List (Int × Int)) (hok : HdOk hs) (hne : 0 < hs.length) (h6 : hs.length ≤ 6) (k4 k5 k6 k7 : Nat) (h4 : getC O T k4 = some (.lst (hdD hs))) (ows : List Ow) (hA : OwAt O T k5 ows) (hol : ows.length ≤ 100) (hO : OwsOk O T hs ows) (hS6 : St3 O T k6) (f : Int) (p : Int × Int) (f0 : 0 ≤ f) (hf : hs[f.toNat]? = some p) (fns : List Fn) (hfl : fns.length ≤ 10) (hk7 : getC O T k7 = some (.lst (fns.map Fn.dd))) (h7 : O.length ≤ k7) (y0 y1 y2 y3 y9 y10 y11 y12 y13 y14 y15 y16 : Option U) {nx bk ct : Rho → Cs → Prop} {rt : U → Cs → Prop}
    (h : ∀ (fn : Fn) (T' : Cs) (y9 y10 y11 y12 y13 y14 : Option U), FnD hs p fn → getC O T' k7 = some (.lst (fns.map Fn.dd)) → Mv O T T' → nx [y0, y1, y2, y3, some (.ref k4), some (.ref k5), some (.ref k6), some (.ref k7), some (.d (.int f)), y9, y10, y11, y12, y13, y14, y15, y16] (T'.set (k7 - O.length) (.lst (fns.map Fn.dd ++ [fn.dd])))) :
    Wp (denB C O b18L [y0, y1, y2, y3, some (.ref k4), some (.ref k5), some (.ref k6), some (.ref k7), some (.d (.int f)), y9, y10, y11, y12, y13, y14, y15, y16] T) nx bk ct rt := by
  have hfl2 := (List.getElem?_eq_some_iff.mp hf).1
  have hpb := hok _ (List.mem_of_getElem? hf)
  obtain ⟨g, v⟩ := p
  have hix : ixU O (.ref k4) (.d (.int f)) T = some (.d (.tuple [.int g, .int v])) := ixU_at h4 (hd_at f0 hf)
  unfold b18L
  refine st_asgT (u := .d (.tuple [.int g, .int v])) (T' := T) (ρ' := [y0, y1, y2, y3, some (.ref k4), some (.ref k5), some (.ref k6), some (.ref k7), some (.d (.int f)), some (.d (.int g)), some (.d (.int v)), y11, y12, y13, y14, y15, y16]) (by simp [hix]) (by simp) ?_
  have hmc := mine_comp (C := C) hA (by omega) f [y0, y1, y2, y3, some (.ref k4), some (.ref k5), some (.ref k6), some (.ref k7), some (.d (.int f)), some (.d (.int g)), some (.d (.int v)), y11, y12, y13, y14, y15, y16] 15 8 5 rfl rfl (by decide) (by simp)
  have m1 := Mv.app O T [Y.cellOf ((mineL ows f).map owU)]
  have hA1 : OwAt O (T ++ [Y.cellOf ((mineL ows f).map owU)]) (O.length + T.length) (mineL ows f) := cellOf_at (by rw [getC_k]; simp)
  refine st_asg (u := .ref (O.length + T.length)) (T' := T ++ [Y.cellOf ((mineL ows f).map owU)]) hmc ?_
  generalize T ++ [Y.cellOf ((mineL ows f).map owU)] = T1 at *
  generalize O.length + T.length = k11 at *
  have hm8 := hO.m8 f
  have hOm : ∀ x ∈ mineL ows f, OwOk O T1 hs x := fun x hx => (hO.ok x (List.mem_filter.mp hx).1).mv m1
  have hvm : ∀ x ∈ mineL ows f, WdOk x.2.1 v := fun x hx => by
    have h1 := (List.mem_filter.mp hx).2
    have h2 := (hO.ok x (List.mem_filter.mp hx).1).f1
    obtain ⟨q, hq, hw⟩ := h2
    simp only [decide_eq_true_eq] at h1
    rw [h1, hf] at hq
    cases hq
    exact hw
  obtain ⟨rows, T2, r1, r2, m2, e2⟩ := rows3_ok (C := C) hr hs hok hne h6 k4 k11 (m1.get h4 (hd_not hs)) (mineL ows f) hA1 hOm v (by omega) (by omega) hvm hm8 y0 y1 y2 y3 (some (.ref k5)) (some (.ref k6)) (some (.ref k7)) (some (.d (.int f))) (some (.d (.int g))) y12 y13 y14 y15 y16
  refine st_asg (u := .d (.list (rows.map Rw.dd))) (T' := T2) e2 ?_
  have hlen := len_ow (hA1.mv m2)
  rw [← r1] at r2 hlen
  have m02 := m1.trans m2
  obtain ⟨x, T3, x0, x1, m3, e3⟩ := hn O T2 k6 ((rows.length : Int) + 1) (hS6.mv m02) (by omega) (by omega)
  unfold b18E
  refine st_asg (u := .d (Rw.to x).dd) (T' := T3) (by simp [hlen, -lenB_T, e3, Rw.dd]) ?_
  have hfin : ∀ (last : Rw) (T4 : Cs), Mv O T T4 → RwD hs v (1 + (rows.length : Int)) last → ((∃ r, last = .to r) ∨ ∃ x, last = .ret x) → Wp (denB C O b18A [y0, y1, y2, y3, some (.ref k4), some (.ref k5), some (.ref k6), some (.ref k7), some (.d (.int f)), some (.d (.int g)), some (.d (.int v)), some (.ref k11), some (.d (.list (rows.map Rw.dd))), some (.d last.dd), y14, y15, y16] T4) nx bk ct rt := by
    intro last T4 m4 hl hll
    have g7 : getC O T4 k7 = some (.lst (fns.map Fn.dd)) := m4.get hk7 (by
      rintro ⟨a, b, c, e⟩
      injection e with e
      cases fns with
      | nil => simp at e
      | cons z fns => simp [Fn.dd] at e)
    exact put3 v f g (by omega) (by omega) f0 (by omega) hpb.1 k7 hs (fns.map Fn.dd) g7 h7 (by simp; omega) rows last (by omega) r2 hl hll _ _ _ _ _ _ _ _ _ _ _ (fun fn u hD => h fn T4 _ _ _ _ _ _ hD g7 m4)
  have m03 := m02.trans m3
  by_cases q : 0 < v
  · obtain ⟨y, T4, y0', y1', m4, e4⟩ := hn O T3 k6 4 (hS6.mv m03) (by decide) (by decide)
    refine st_ite (T' := T4) (decide (0 < y)) (by simp [q, e4]) ?_
    by_cases q2 : 0 < y
    · rw [if_pos (by simp [q2])]
      obtain ⟨z, T5, z0, z1, m5, e5⟩ := hn O T4 k6 v (hS6.mv (m03.trans m4)) q (by omega)
      unfold b18T
      exact st_asg (u := .d (Rw.ret z).dd) (T' := T5) (by simp [e5, Rw.dd]) (st_nil (hfin (.ret z) T5 ((m03.trans m4).trans m5) ⟨z0, z1⟩ (.inr ⟨_, rfl⟩)))
    · rw [if_neg (by simp [q2])]
      exact st_nil (hfin (.to x) T4 (m03.trans m4) ⟨x0, by omega⟩ (.inl ⟨_, rfl⟩))
  · refine st_ite (T' := T3) false (by simp [q]) ?_
    rw [if_neg (by decide)]
    exact st_nil (hfin (.to x) T3 m03 ⟨x0, by omega⟩ (.inl ⟨_, rfl⟩))
end
end Lk73

set_option Elab.async false
set_option linter.all false
set_option maxRecDepth 100000
set_option maxHeartbeats 4000000
namespace Lk73
open PySem Y
def Heads3 (C : Cn) (ua : U) : Prop := ∀ (O T : Cs), ∃ (hs : List (Int × Int)) (k : Nat) (T' : Cs), HdOk hs ∧ 1 ≤ hs.length ∧ hs.length ≤ 6 ∧ O.length + T.length ≤ k ∧ getC O T' k = some (.lst (hdD hs)) ∧ Mv O T T' ∧ C.call O 16 [ua, .d (.int 6), .d (.int 4)] T = .ok (.ref k) T'
def Places3 (C : Cn) (ua : U) : Prop := ∀ (O T : Cs) (k : Nat) (hs : List (Int × Int)), HdOk hs → 0 < hs.length → hs.length ≤ 6 → getC O T k = some (.lst (hdD hs)) → ∀ cells : List Int, (∀ a ∈ cells, 0 ≤ a ∧ a ≤ 100) → cells.length ≤ 100 → ∃ (ows : List Ow) (k3 : Nat) (T' : Cs), OwAt O T' k3 ows ∧ ows.length ≤ 100 ∧ OwsOk O T' hs ows ∧ O.length + T.length ≤ k3 ∧ Mv O T T' ∧ C.call O 17 [ua, .ref k, .d (.list (cells.map .int))] T = .ok (.ref k3) T'
theorem fns_not (fns : List Fn) : ¬ IsS (.lst (fns.map Fn.dd)) := by
  rintro ⟨a, b, c, e⟩
  injection e with e
  cases fns with
  | nil => simp at e
  | cons z fns => simp [Fn.dd] at e
theorem ints_not (vs : List Int) : ¬ IsS (.lst (vs.map .int)) := by
  rintro ⟨a, b, c, e⟩
  injection e with e
  match vs, e with
  | [], e => cases e
  | [_], e => cases e
  | [_, _], e => cases e
  | _ :: _ :: _ :: _, e => simp at e
theorem program3_run (n : Nat) (ua : U) (hn : Next3 (cn G n)) (hst : State3 (cn G n) ua) (hr : Row3 (cn G n)) (hh : Heads3 (cn G n) ua) (hp : Places3 (cn G n) ua) (O T : Cs) (cells : List Int) (hc : ∀ a ∈ cells, 0 ≤ a ∧ a ≤ 100) (hcl : cells.length ≤ 100) : ∃ (pr : List Fn) (k : Nat) (T' : Cs), PrOk pr ∧ pr.length ≤ 6 ∧ O.length ≤ k ∧ getC O T' k = some (.lst (pr.map Fn.dd)) ∧ Y.run G (n + 1) O 18 [ua, .d (.int 6), .d (.int 4), .d (.list (cells.map .int))] T = .ok (.ref k) T' := by
  suffices hg : Gv (Y.run G (n + 1) O 18 [ua, .d (.int 6), .d (.int 4), .d (.list (cells.map .int))] T) fun u T' => ∃ (pr : List Fn) (k : Nat), PrOk pr ∧ pr.length ≤ 6 ∧ O.length ≤ k ∧ getC O T' k = some (.lst (pr.map Fn.dd)) ∧ u = .ref k by
    obtain ⟨u, T', e, pr, k, h1, h2, h3, h4, rfl⟩ := hg.ex
    exact ⟨pr, k, T', h1, h2, h3, h4, e⟩
  refine run_wp G18 rfl ?_
  generalize cn G n = C at hn hst hr hh hp ⊢
  obtain ⟨hs, k4, T1, hok, hl1, hl6, hk4, g4, m1, e1⟩ := hh O T
  obtain ⟨ows, k5, T2, hA, hol, hO, hk5, m2, e2⟩ := hp O T1 k4 hs hok (by omega) hl6 g4 cells hc hcl
  obtain ⟨c, hcS, e3⟩ := hst O T2 2 (by decide) (by decide)
  rw [b18_eq]
  refine st_asg (u := .ref k4) (T' := T1) (by simp [e1]) ?_
  refine st_asg (u := .ref k5) (T' := T2) (by simp [e2]) ?_
  obtain ⟨k6, hk6⟩ : ∃ k6, k6 = O.length + T2.length := ⟨_, rfl⟩
  obtain ⟨k7, hk7⟩ : ∃ k7, k7 = O.length + T2.length + 1 := ⟨_, rfl⟩
  rw [← hk6] at e3
  refine st_asg (u := .ref k6) (T' := T2 ++ [c]) (by simp [e3]) ?_
  refine st_asg (u := .ref k7) (T' := (T2 ++ [c]) ++ [.lst []]) (by simp [hk7]; omega) ?_
  have m3 : Mv O T2 ((T2 ++ [c]) ++ [.lst []]) := (Mv.app _ _ _).trans (Mv.app _ _ _)
  have hS6 : St3 O ((T2 ++ [c]) ++ [.lst []]) k6 := ⟨by omega, c, hcS, getC_app (by rw [hk6, getC_k]; simp)⟩
  have g7 : getC O ((T2 ++ [c]) ++ [.lst []]) k7 = some (.lst (([] : List Fn).map Fn.dd)) := by
    rw [show k7 = O.length + (T2 ++ [c]).length by simp; omega, getC_k]
    simp
  have g43 := m3.get (m2.get g4 (hd_not hs)) (hd_not hs)
  have hA3 := hA.mv m3
  have hO3 := hO.mv m3
  have hA_lt := hA.lt
  have lt4 := own_lt (m2.get g4 (hd_not hs))
  generalize (T2 ++ [c]) ++ [Cell.lst []] = T3 at *
  have hl4 : lenB O T3 (.ref k4) = .ok (.d (.int hs.length)) T3 := by rw [lenB_ref g43]; simp [hdD]
  refine st_for ⟨rngU 0 hs.length 1, none, T3⟩ T3 (fun i ρ T' => ∃ (fns : List Fn) (y8 y9 y10 y11 y12 y13 y14 : Option U), ρ = [some ua, some (.d (.int 6)), some (.d (.int 4)), some (.d (.list (cells.map .int))), some (.ref k4), some (.ref k5), some (.ref k6), some (.ref k7), y8, y9, y10, y11, y12, y13, y14, none, none] ∧ getC O T' k4 = some (.lst (hdD hs)) ∧ OwAt O T' k5 ows ∧ OwsOk O T' hs ows ∧ St3 O T' k6 ∧ getC O T' k7 = some (.lst (fns.map Fn.dd)) ∧ fns.length = i ∧ PrD hs fns) ?_ ⟨[], none, none, none, none, none, none, none, rfl, g43, hA3, hO3, hS6, g7, rfl, by intro j fn p h; simp at h⟩ (fun _ _ _ _ => rfl) ?_ ?_
  · refine rng1_ok ?_ (by omega)
    simp [hl4]
  · rintro i u hu ρ T4 ⟨fns, y8, y9, y10, y11, y12, y13, y14, rfl, q4, qA, qO, qS, q7, hfl, hD⟩
    obtain ⟨hi, rfl⟩ := rngU_get hu
    have hii : (0 + (i : Int) * 1) = (i : Int) := by omega
    rw [hii]
    refine ⟨_, asgT_nm .., ?_⟩
    have hpi : hs[((i : Int)).toNat]? = some hs[i] := by
      rw [show ((i : Int)).toNat = i by omega]
      exact List.getElem?_eq_getElem hi
    refine fn3_turn hn hr hs hok (by omega) hl6 k4 k5 k6 k7 q4 ows qA hol qO qS (i : Int) hs[i] (by omega) hpi fns (by omega) q7 (by omega) _ _ _ _ _ _ _ _ _ _ _ _ ?_
    intro fn T5 z9 z10 z11 z12 z13 z14 hfd p7 m5
    have lo7 : O.length ≤ k7 := by omega
    have hgk : ∀ j, j ≠ k7 → getC O (T5.set (k7 - O.length) (.lst (fns.map Fn.dd ++ [fn.dd]))) j = getC O T5 j := fun j hj => get_set_ne lo7 hj
    have hSt : ∀ z, St3 O T5 z → St3 O (T5.set (k7 - O.length) (.lst (fns.map Fn.dd ++ [fn.dd]))) z := fun z hz => by
      obtain ⟨c', h1, h2⟩ := hz.at_
      refine ⟨hz.lo, c', h1, ?_⟩
      rw [hgk z ?_]
      · exact h2
      · intro hh
        subst hh
        rw [h2] at p7
        cases p7
        exact fns_not fns h1
    have hA5 := qA.mv m5
    refine ⟨fns ++ [fn], _, _, _, _, _, _, _, rfl, ?_, ?_, ⟨fun x hx => ?_, hO.m8⟩, hSt _ (qS.mv m5), ?_, by simp [hfl], ?_⟩
    · rw [hgk k4 (by omega)]
      exact m5.get q4 (hd_not hs)
    · rcases hA5 with ⟨h, h'⟩ | h'
      · exact .inl ⟨h, by rw [hgk k5 (by omega)]; exact h'⟩
      · exact .inr (by rw [hgk k5 (by omega)]; exact h')
    · have := (qO.mv m5).ok x hx
      exact ⟨this.f0, this.f1, hSt _ this.s⟩
    · rw [set_get p7 lo7]
      simp
    · intro j fn' p h1 h2
      by_cases q : j < fns.length
      · rw [List.getElem?_append_left q] at h1
        exact hD j fn' p h1 h2
      · rw [List.getElem?_append_right (by omega)] at h1
        have h3 := List.mem_of_getElem? h1
        simp only [List.mem_singleton] at h3
        subst h3
        have hj : j - fns.length = 0 := by have := (List.getElem?_eq_some_iff.mp h1).1; simpa using this
        have hj2 : j = i := by omega
        subst hj2
        rw [List.getElem?_eq_getElem hi] at h2
        cases h2
        exact hfd
  · rintro ρ T4 ⟨fns, y8, y9, y10, y11, y12, y13, y14, rfl, q4, qA, qO, qS, q7, hfl, hD⟩
    rw [rngU_len] at hfl
    exact st_ret (u := .ref k7) (T' := T4) (by simp) ⟨fns, k7, prok_of hok (by omega) hfl hD, by omega, by omega, q7, rfl⟩
theorem values3_run (n : Nat) (ua : U) (hn : Next3 (cn G n)) (hst : State3 (cn G n) ua) (O T : Cs) (given : Nat) (h4 : given ≤ 10) : ∃ (vs : List Int) (r : Nat) (T' : Cs), vs.length = given ∧ HeldOk vs ∧ St3 O T' r ∧ Mv O T T' ∧ Y.run G (n + 1) O 19 [ua, .d (.int given)] T = .ok (.tup [.d (.list (vs.map .int)), .ref r]) T' := by
  suffices hg : Gv (Y.run G (n + 1) O 19 [ua, .d (.int given)] T) fun u T' => ∃ (vs : List Int) (r : Nat), vs.length = given ∧ HeldOk vs ∧ St3 O T' r ∧ Mv O T T' ∧ u = .tup [.d (.list (vs.map .int)), .ref r] by
    obtain ⟨u, T', e, vs, r, h1, h2, h3, h4, rfl⟩ := hg.ex
    exact ⟨vs, r, T', h1, h2, h3, h4, e⟩
  refine run_wp G19 rfl ?_
  generalize cn G n = C at hn hst ⊢
  obtain ⟨c, hcS, e1⟩ := hst O T 0 (by decide) (by decide)
  obtain ⟨r, hr⟩ : ∃ r, r = O.length + T.length := ⟨_, rfl⟩
  obtain ⟨k, hk⟩ : ∃ k, k = O.length + T.length + 1 := ⟨_, rfl⟩
  rw [← hr] at e1
  unfold b19
  refine st_asg (u := .ref r) (T' := T ++ [c]) (by simp [e1]) ?_
  refine st_asg (u := .ref k) (T' := (T ++ [c]) ++ [.lst []]) (by simp [hk]; omega) ?_
  have m0 : Mv O T ((T ++ [c]) ++ [.lst []]) := (Mv.app _ _ _).trans (Mv.app _ _ _)
  have hS0 : St3 O ((T ++ [c]) ++ [.lst []]) r := ⟨by omega, c, hcS, getC_app (by rw [hr, getC_k]; simp)⟩
  have g0 : getC O ((T ++ [c]) ++ [.lst []]) k = some (.lst (([] : List Int).map .int)) := by
    rw [show k = O.length + (T ++ [c]).length by simp; omega, getC_k]
    simp
  generalize (T ++ [c]) ++ [Cell.lst []] = T0 at *
  refine st_for ⟨rngU 0 given 1, none, T0⟩ T0 (fun i ρ T' => ∃ (vs : List Int) (w4 : Option U), ρ = [some ua, some (.d (.int given)), some (.ref r), some (.ref k), w4] ∧ vs.length = i ∧ HeldOk vs ∧ getC O T' k = some (.lst (vs.map .int)) ∧ St3 O T' r ∧ Mv O T T') ?_ ⟨[], none, rfl, rfl, by intro v hv; simp at hv, g0, hS0, m0⟩ (fun _ _ _ _ => rfl) ?_ ?_
  · exact rng1_ok (by simp) (by omega)
  · rintro i u hu ρ T1 ⟨vs, w4, rfl, hl, hH, gk, hS, hM⟩
    obtain ⟨hi, rfl⟩ := rngU_get hu
    refine ⟨_, asgT_nm .., ?_⟩
    obtain ⟨b, T2, b0, b1, m2, e2⟩ := hn O T1 r 2 hS (by decide) (by decide)
    have hat : ∃ z : Int, L2.atI [PyData.int 4, .int 1000000000000000000] b = some (.int z) ∧ 0 < z ∧ z ≤ 1000000000000000000 := by
      rcases (by omega : b = 0 ∨ b = 1) with rfl | rfl
      · exact ⟨4, rfl, by decide, by decide⟩
      · exact ⟨1000000000000000000, rfl, by decide, by decide⟩
    obtain ⟨z, hat, z0, z1⟩ := hat
    obtain ⟨y, T3, y0, y1, m3, e3⟩ := hn O T2 r z (hS.mv m2) z0 (by omega)
    have gk3 := m3.get (m2.get gk (ints_not vs)) (ints_not vs)
    have ty : tyU O T1 (.ref k) = some .list := by rw [tyU_ref, gk]
    have happ := app_at (O := O) (PyData.int y) gk3 (by simp; omega) (by omega)
    refine st_ex (u := .d .none) (T' := T3.set (k - O.length) (.lst (vs.map .int ++ [PyData.int y]))) (by simp [ty, -tyU_ref, -appU_eq, e2, hat, e3, happ]) (st_nil ⟨vs ++ [y], _, rfl, by simp [hl], ?_, ?_, ?_, ?_⟩)
    · intro x hx
      rw [List.mem_append] at hx
      rcases hx with hx | hx
      · exact hH x hx
      · simp only [List.mem_singleton] at hx
        subst hx
        exact ⟨y0, by omega⟩
    · rw [set_get gk3 (by omega)]
      simp
    · obtain ⟨c', h1, h2⟩ := ((hS.mv m2).mv m3).at_
      refine ⟨hS.lo, c', h1, ?_⟩
      rw [get_set_ne (by omega) (by omega)]
      exact h2
    · exact ((hM.trans m2).trans m3).setk (by omega) _
  · rintro ρ T1 ⟨vs, w4, rfl, hl, hH, gk, hS, hM⟩
    rw [rngU_len] at hl
    have hfz : frzU O (.ref k) T1 = .ok (.d (.list (vs.map .int))) (T1.set (k - O.length) .dead) := by
      unfold frzU
      simp only [gk]
      unfold setC
      rw [if_pos ⟨by omega, own_lt gk⟩]
      rfl
    refine st_ret (u := .tup [.d (.list (vs.map .int)), .ref r]) (T' := T1.set (k - O.length) .dead) (by simp [hfz, mkT_eq]) ⟨vs, r, hl, hH, ?_, hM.setk (by omega) _, rfl⟩
    obtain ⟨c', h1, h2⟩ := hS.at_
    refine ⟨hS.lo, c', h1, ?_⟩
    rw [get_set_ne (by omega) (by omega)]
    exact h2
def b20C : CE := (.comp false (.v 4) (.nm 4) (.lst (.v 2)) (.cmp .le (.ix (.v 4) (.c (.int 0))) (.v 1)) [4])
theorem b20_eq : b20 = (.cons (.asg (.tp (.cons (.nm 2) (.cons (.nm 3) .nil))) (.v 0))
 (.cons (.ite (.and (.cmp .eq (.ix (.v 3) (.c (.int 0))) (.c (.str "done"))) (.cmp .le (.ix (.ix (.v 2) (.neg (.c (.int 1)))) (.c (.int 0))) (.v 1))) (.cons (.ret (.v 0))
  .nil) .nil)
 (.cons (.ret (.tup (.cons b20C (.cons (.tup (.cons (.c (.str "spent")) .nil)) .nil))))
 .nil))) := rfl
theorem st_steps {d : D} (h : IsSt d) : ∃ a b c : Int, d = .tuple [.int (stepsOf d), .int a, .int b, .int c] := by
  obtain ⟨a, b, c, e, rfl⟩ := h
  exact ⟨b, c, e, rfl⟩
theorem cut3_run (n : Nat) (O T : Cs) (kS : Nat) (sts : List D) (ed : D) (few : Int) (hS : getC O T kS = some (.lst sts)) (hst : ∀ d ∈ sts, IsSt d) (hsl : sts.length ≤ 1000000) (R : List D × D)
    (h : (∃ v l x, ed = .tuple [.str "done", .int v] ∧ sts = l ++ [x] ∧ ((stepsOf x ≤ few ∧ R = (sts, ed)) ∨ (few < stepsOf x ∧ R = (sts.filter (fun d => decide (stepsOf d ≤ few)), .tuple [.str "spent"])))) ∨ (ed = .tuple [.str "spent"] ∧ R = (sts.filter (fun d => decide (stepsOf d ≤ few)), .tuple [.str "spent"]))) :
    ∃ u, Y.run G (n + 1) O 20 [.tup [.ref kS, .d ed], .d (.int few)] T = .ok u T ∧ toD O T 3 u = some (.tuple [.list R.1, R.2]) := by
  suffices hg : Gv (Y.run G (n + 1) O 20 [.tup [.ref kS, .d ed], .d (.int few)] T) fun u T' => T' = T ∧ toD O T 3 u = some (.tuple [.list R.1, R.2]) by
    obtain ⟨u, T', e, rfl, h2⟩ := hg.ex
    exact ⟨u, e, h2⟩
  refine run_wp G20 rfl ?_
  generalize cn G n = C
  rw [b20_eq]
  refine st_asgT (u := .tup [.ref kS, .d ed]) (T' := T) (ρ' := [some (.tup [.ref kS, .d ed]), some (.d (.int few)), some (.ref kS), some (.d ed), none]) (by simp) (by simp) ?_
  have hcomp : den C O [some (.tup [.ref kS, .d ed]), some (.d (.int few)), some (.ref kS), some (.d ed), none] b20C T = .ok (.d (.list (sts.filter (fun d => decide (stepsOf d ≤ few))))) T := by
    unfold b20C
    refine comp_d (us := sts.map U.d) (w := some kS) (tt := T) (fun u => match u with
      | .d d => if stepsOf d ≤ few then some (.d d) else none
      | _ => none) (by simp [hS, watch]) (fun acc => sameW_refl hS (getC_app hS) (.inl ⟨_, rfl⟩)) ?_ (by simpa using hsl) ?_
    · intro u hu acc
      obtain ⟨d, hd, rfl⟩ := List.mem_map.mp hu
      obtain ⟨a, b, c, e⟩ := st_steps (hst d hd)
      have i0 : ixU O (.d d) (.d (.int 0)) (T ++ [.lstU acc]) = some (.d (.int (stepsOf d))) := by rw [e]; rfl
      refine ⟨[some (.tup [.ref kS, .d ed]), some (.d (.int few)), some (.ref kS), some (.d ed), some (.d d)], by simp [wipeR], ?_⟩
      by_cases q : stepsOf d ≤ few
      · simp [q, i0]
      · simp [q, i0]
    · generalize sts = l
      induction l with
      | nil => rfl
      | cons d l ih =>
        simp only [List.map_cons, List.filterMap_cons, List.filter_cons]
        by_cases q : stepsOf d ≤ few
        · simp only [q, if_true, decide_true, List.map_cons, ih]
        · simp only [q, if_false, decide_false, ih]
          simp
  have hcut : R = (sts.filter (fun d => decide (stepsOf d ≤ few)), .tuple [.str "spent"]) → Wp (denB C O (.cons (.ret (.tup (.cons b20C (.cons (.tup (.cons (.c (.str "spent")) .nil)) .nil)))) .nil) [some (.tup [.ref kS, .d ed]), some (.d (.int few)), some (.ref kS), some (.d ed), none] T) (fun _ T' => T' = T ∧ toD O T 3 (.d .none) = some (.tuple [.list R.1, R.2])) (fun _ _ => False) (fun _ _ => False) (fun u T' => T' = T ∧ toD O T 3 u = some (.tuple [.list R.1, R.2])) := by
    intro e
    rw [e]
    refine st_ret (u := .d (.tuple [.list (sts.filter (fun d => decide (stepsOf d ≤ few))), .tuple [.str "spent"]])) (T' := T) ?_ ⟨rfl, rfl⟩
    generalize sts.filter (fun d => decide (stepsOf d ≤ few)) = F at *
    simp [hcomp]
  rcases h with ⟨v, l, x, rfl, hl, h⟩ | ⟨rfl, h⟩
  · have hq : cmpU O .eq (.d (.str "done")) (.d (.str "done")) T = some true := (str_eq lay_done lay_done).trans (by simp)
    have hx0 : L2.atI [PyData.str "done", .int v] 0 = some (.str "done") := rfl
    obtain ⟨a, b, c, e⟩ := st_steps (hst x (by rw [hl]; simp))
    have hlast : ixU O (.ref kS) (.d (.int (-1))) T = some (.d x) := ixU_at hS (by rw [hl]; exact atI_m1 l x)
    have i0 : ixU O (.d x) (.d (.int 0)) T = some (.d (.int (stepsOf x))) := by rw [e]; rfl
    refine st_ite (T' := T) (decide (stepsOf x ≤ few)) ?_ ?_
    · simp [hx0, hq, hlast, i0]
    rcases h with ⟨h1, h2⟩ | ⟨h1, h2⟩
    · rw [if_pos (by simp [h1])]
      refine st_ret (u := .tup [.ref kS, .d (.tuple [.str "done", .int v])]) (T' := T) (by simp) ⟨rfl, ?_⟩
      rw [h2]
      exact toD_res hS
    · rw [if_neg (by simp; omega)]
      exact st_nil (hcut h2)
  · have hq : cmpU O .eq (.d (.str "spent")) (.d (.str "done")) T = some false := (str_eq lay_spent lay_done).trans (by rw [decide_eq_false (by decide +kernel)])
    have hx0 : L2.atI [PyData.str "spent"] 0 = some (.str "spent") := rfl
    refine st_ite (T' := T) false (by simp [hx0, hq]) ?_
    rw [if_neg (by decide)]
    exact st_nil (hcut h)
end Lk73

set_option Elab.async false
set_option linter.all false
set_option maxRecDepth 100000
set_option maxHeartbeats 4000000
namespace Lk73
open PySem Y
def b21I : CB := (.cons (.ite (.or (.cmp .ne (.slc false (.v 13) .skip (.c (.int 3))) (.slc false (.ix (.ix (.v 10) (.c (.int 0))) (.v 12)) .skip (.c (.int 3)))) (.cmp .ne (.bin false .band (.ix (.ix (.ix (.v 11) (.c (.int 0))) (.v 12)) (.c (.int 3))) (.ix (.v 13) (.c (.int 3)))) (.ix (.ix (.ix (.v 11) (.c (.int 0))) (.v 12)) (.c (.int 3))))) (.cons (.ret (.c (.bool false)))
    .nil) .nil)
   .nil)
def b21K : CB := (.cons (.for_ (.nm 13) (.lst (.lst false (.cons (.ix (.ix (.v 8) (.c (.int 0))) (.v 12)) (.cons (.ix (.ix (.v 9) (.c (.int 0))) (.v 12)) (.cons (.ix (.ix (.v 11) (.c (.int 0))) (.v 12)) .nil))))) b21I)
  (.cons (.ite (.cmp .ne (.bin false .bor (.ix (.ix (.ix (.v 8) (.c (.int 0))) (.v 12)) (.c (.int 3))) (.ix (.ix (.ix (.v 9) (.c (.int 0))) (.v 12)) (.c (.int 3)))) (.ix (.ix (.ix (.v 10) (.c (.int 0))) (.v 12)) (.c (.int 3)))) (.cons (.ret (.c (.bool false)))
   .nil) .nil)
  .nil))
def b21C : CB := (.cons (.ite (.cmp .ne (.call true 10 (.cons (.v 1) (.cons (.v 2) (.cons (.v 15) (.cons (.v 7) .nil)))) []) (.call true 20 (.cons (.v 14) (.cons (.v 7) .nil)) [])) (.cons (.ret (.c (.bool false)))
   .nil) .nil)
  .nil)
def b21Z : CB := (.cons (.for_ (.tp (.cons (.nm 14) (.cons (.nm 15) .nil))) (.lst (.lst true (.cons (.tup (.cons (.v 8) (.cons (.v 4) .nil))) (.cons (.tup (.cons (.v 10) (.cons (.bin false .bor (.v 4) (.v 5)) .nil))) .nil)))) b21C)
 (.cons (.ret (.c (.bool true)))
 .nil))
def b21Y : CB := (.cons (.ite (.or (.cmp .ne (.ix (.v 8) (.c (.int 1))) (.ix (.v 10) (.c (.int 1)))) (.or (.cmp .ne (.ix (.v 9) (.c (.int 1))) (.ix (.v 10) (.c (.int 1)))) (.cmp .ne (.ix (.v 11) (.c (.int 1))) (.ix (.v 10) (.c (.int 1)))))) (.cons (.ret (.c (.bool false)))
  .nil) .nil)
 (.cons (.ite (.or (.cmp .ne (.bi false .len (.cons (.ix (.v 8) (.c (.int 0))) .nil)) (.bi false .len (.cons (.ix (.v 10) (.c (.int 0))) .nil))) (.or (.cmp .ne (.bi false .len (.cons (.ix (.v 9) (.c (.int 0))) .nil)) (.bi false .len (.cons (.ix (.v 10) (.c (.int 0))) .nil))) (.cmp .ne (.bi false .len (.cons (.ix (.v 11) (.c (.int 0))) .nil)) (.bi false .len (.cons (.ix (.v 10) (.c (.int 0))) .nil))))) (.cons (.ret (.c (.bool false)))
  .nil) .nil)
 (.cons (.for_ (.nm 12) (.rng1 (.bi false .len (.cons (.ix (.v 10) (.c (.int 0))) .nil))) b21K) b21Z)))
def b21X : CB := (.cons (.asg (.nm 8) (.call true 10 (.cons (.v 1) (.cons (.v 2) (.cons (.v 4) (.cons (.v 6) .nil)))) []))
 (.cons (.asg (.nm 9) (.call true 10 (.cons (.v 1) (.cons (.v 2) (.cons (.v 5) (.cons (.v 6) .nil)))) []))
 (.cons (.asg (.nm 10) (.call true 10 (.cons (.v 1) (.cons (.v 2) (.cons (.bin false .bor (.v 4) (.v 5)) (.cons (.v 6) .nil)))) []))
 (.cons (.asg (.nm 11) (.call true 10 (.cons (.v 1) (.cons (.v 2) (.cons (.c (.int 0)) (.cons (.v 6) .nil)))) [])) b21Y))))
theorem b21_eq : b21 = (.cons (.asg (.nm 1) (.call true 18 (.cons (.v 0) (.cons (.c (.int 6)) (.cons (.c (.int 4)) (.cons (.comp false (.v 0) (.nm 0) (.rng2 (.c (.int 3)) (.bi false .min2 (.cons (.bi false .len (.cons (.v 0) .nil)) (.cons (.c (.int 63)) .nil)))) (.c (.bool true)) []) .nil)))) []))
 (.cons (.asg (.tp (.cons (.nm 2) (.cons (.nm 3) .nil))) (.call true 19 (.cons (.v 0) (.cons (.ix (.ix (.v 1) (.c (.int 0))) (.c (.int 1))) .nil)) []))
 (.cons (.asg (.nm 4) (.call true 13 (.cons (.v 3) (.cons (.c (.int 16)) .nil)) []))
 (.cons (.asg (.nm 5) (.call true 13 (.cons (.v 3) (.cons (.c (.int 16)) .nil)) []))
 (.cons (.asg (.nm 6) (.call true 13 (.cons (.v 3) (.cons (.ix (.lst false (.cons (.c (.int 40)) (.cons (.c (.int 401)) .nil))) (.bi false .int (.cons (.cmp .eq (.call true 13 (.cons (.v 3) (.cons (.c (.int 8)) .nil)) []) (.c (.int 1))) .nil))) .nil)) []))
 (.cons (.asg (.nm 7) (.call true 13 (.cons (.v 3) (.cons (.bin false .add (.v 6) (.c (.int 1))) .nil)) [])) b21X)))))) := rfl
/-- what run gives, by dyes and most -/
structure RunD (C : Cn) (pr : List Fn) (L : D) (R : Nat → Nat → List D × D) : Prop where
  ok : ∀ (T : Cs) (k d m : Nat), getC [] T k = some (.lst (pr.map Fn.dd)) → m ≤ 400 → ∃ T' kS, T.length ≤ kS ∧ getC [] T' kS = some (.lst (R d m).1) ∧ Kept [] T.length T T' ∧ C.call [] 10 [.ref k, .d L, .d (.int d), .d (.int m)] T = .ok (.tup [.ref kS, .d (R d m).2]) T'
theorem lt_of {T : Cs} {k : Nat} {c : Cell} (h : getC [] T k = some c) : k < T.length := by
  have := own_lt h
  simpa using this
theorem and_of_or {p m : Nat} (h : p ||| m = m) : p &&& m = p := by
  apply Nat.eq_of_testBit_eq
  intro i
  have hi := congrArg (fun x => x.testBit i) h
  simp only [Nat.testBit_or] at hi
  rw [Nat.testBit_and]
  cases hp : p.testBit i with
  | false => rfl
  | true => rw [hp] at hi; simpa using hi.symm
/-- four states side by side -/
theorem four {a b z n : D} (h1 : S3 a b z) (h2 : S3 n z z) (h3 : S3 n a a) (h4 : S3 n b b) : ∃ (s f t : Int) (x y p : Nat), a = .tuple [.int s, .int f, .int t, .int (x : Int)] ∧ b = .tuple [.int s, .int f, .int t, .int (y : Int)] ∧ z = .tuple [.int s, .int f, .int t, .int ((x ||| y : Nat) : Int)] ∧ n = .tuple [.int s, .int f, .int t, .int (p : Int)] ∧ p &&& x = p ∧ p &&& y = p := by
  obtain ⟨s, f, t, x, y, rfl, rfl, rfl⟩ := h1
  obtain ⟨s2, f2, t2, p, x2, e1, e2, e3⟩ := h3
  obtain ⟨s4, f4, t4, p4, y4, e4, e5, e6⟩ := h4
  subst e1
  simp only [PyData.tuple.injEq, List.cons.injEq, PyData.int.injEq, and_true, Int.ofNat_inj] at e2 e3 e4 e5 e6
  obtain ⟨rfl, rfl, rfl, rfl⟩ := e2
  obtain ⟨_, _, _, e3⟩ := e3
  obtain ⟨_, _, _, rfl⟩ := e4
  obtain ⟨_, _, _, rfl⟩ := e5
  obtain ⟨_, _, _, e6⟩ := e6
  exact ⟨s, f, t, x, y, p, rfl, rfl, rfl, rfl, and_of_or e3.symm, and_of_or e6.symm⟩
def AddUp (A B Z N : List D × D) : Prop := All3 S3 A.1 B.1 Z.1 ∧ All3 S3 N.1 Z.1 Z.1 ∧ All3 S3 N.1 A.1 A.1 ∧ All3 S3 N.1 B.1 B.1 ∧ A.2 = Z.2 ∧ B.2 = Z.2 ∧ N.2 = Z.2
theorem addup (pr : List Fn) (vs : List Int) (d e m : Nat) : AddUp (resOf (machM pr (initM pr vs d) m)) (resOf (machM pr (initM pr vs e) m)) (resOf (machM pr (initM pr vs (d ||| e)) m)) (resOf (machM pr (initM pr vs 0) m)) := by
  have h1 := res3 (M3.mach (pr := pr) (M3.init pr vs d e) m)
  have h0 : ∀ x, All3 S3 (resOf (machM pr (initM pr vs 0) m)).1 (resOf (machM pr (initM pr vs x) m)).1 (resOf (machM pr (initM pr vs x) m)).1 ∧ (resOf (machM pr (initM pr vs 0) m)).2 = (resOf (machM pr (initM pr vs x) m)).2 := fun x => by
    have := res3 (M3.mach (pr := pr) (M3.init pr vs 0 x) m)
    rw [Nat.zero_or] at this
    exact ⟨this.1, this.2.1⟩
  exact ⟨h1.1, (h0 _).1, (h0 _).1, (h0 _).1, h1.2.1, h1.2.2, (h0 _).2⟩
theorem tup_ne {O T : Cs} (ds : List D) (h : lay 1 (.tuple ds)) (hn : noB (.tuple ds) = true) : cmpU O .ne (.d (.tuple ds)) (.d (.tuple ds)) T = some false := (cmp_same (O := O) (T := T) (x := .d (.tuple ds)) (y := .d (.tuple ds)) rfl rfl (h.shp (by decide)) hn).2
section
variable {C : Cn} {T : Cs}
theorem kturn (A B Z N : List D × D) (hAd : AddUp A B Z N) (ka kb kz kn : Nat) (ga : getC [] T ka = some (.lst A.1)) (gb : getC [] T kb = some (.lst B.1)) (gz : getC [] T kz = some (.lst Z.1)) (gn : getC [] T kn = some (.lst N.1)) (k : Nat) (hk : k < Z.1.length) (y0 y1 y2 y3 y4 y5 y6 y7 y13 y14 y15 : Option U) {nx bk ct : Rho → Cs → Prop} {rt : U → Cs → Prop}
    (h : ∀ w, nx [y0, y1, y2, y3, y4, y5, y6, y7, some (.tup [.ref ka, .d A.2]), some (.tup [.ref kb, .d B.2]), some (.tup [.ref kz, .d Z.2]), some (.tup [.ref kn, .d N.2]), some (.d (.int (k : Int))), w, y14, y15] T) :
    Wp (denB C [] b21K [y0, y1, y2, y3, y4, y5, y6, y7, some (.tup [.ref ka, .d A.2]), some (.tup [.ref kb, .d B.2]), some (.tup [.ref kz, .d Z.2]), some (.tup [.ref kn, .d N.2]), some (.d (.int (k : Int))), y13, y14, y15] T) nx bk ct rt := by
  obtain ⟨h1, h2, h3, h4, _⟩ := hAd
  obtain ⟨z, hz⟩ : ∃ z, Z.1[k]? = some z := ⟨_, List.getElem?_eq_getElem hk⟩
  obtain ⟨a, b, ea, eb, s1⟩ := h1.get k z hz
  obtain ⟨n, z', en, ez, s2⟩ := h2.get k z hz
  rw [hz] at ez
  cases ez
  obtain ⟨n1, a1, en1, ea1, s3⟩ := h3.get k a ea
  rw [en] at en1
  cases en1
  rw [ea] at ea1
  cases ea1
  obtain ⟨n2, b1, en2, eb1, s4⟩ := h4.get k b eb
  rw [en] at en2
  cases en2
  rw [eb] at eb1
  cases eb1
  obtain ⟨s, f, t, x, y, p, rfl, rfl, rfl, rfl, hpx, hpy⟩ := four s1 s2 s3 s4
  have at_ : ∀ (l : List D) (d : D), l[k]? = some d → L2.atI l (k : Int) = some d := fun l d hd => by
    have hi := (List.getElem?_eq_some_iff.mp hd).1
    rw [atI_nat _ _ (by omega) (by omega)]
    simpa using hd
  have ia : ixU [] (.ref ka) (.d (.int (k : Int))) T = some (.d (.tuple [.int s, .int f, .int t, .int (x : Int)])) := ixU_at ga (at_ _ _ ea)
  have ib : ixU [] (.ref kb) (.d (.int (k : Int))) T = some (.d (.tuple [.int s, .int f, .int t, .int (y : Int)])) := ixU_at gb (at_ _ _ eb)
  have iz : ixU [] (.ref kz) (.d (.int (k : Int))) T = some (.d (.tuple [.int s, .int f, .int t, .int ((x ||| y : Nat) : Int)])) := ixU_at gz (at_ _ _ hz)
  have in_ : ixU [] (.ref kn) (.d (.int (k : Int))) T = some (.d (.tuple [.int s, .int f, .int t, .int (p : Int)])) := ixU_at gn (at_ _ _ en)
  have j0 : ∀ (k : Nat) (e : D), ixU [] (.tup [.ref k, .d e]) (.d (.int 0)) T = some (.ref k) := fun _ _ => rfl
  have x3 : ∀ q : Int, L2.atI [PyData.int s, .int f, .int t, .int q] 3 = some (.int q) := fun _ => rfl
  have hcut : ∀ q : Int, slcU [] false (.d (.tuple [.int s, .int f, .int t, .int q])) none (some 3) T = .ok (.d (.tuple [.int s, .int f, .int t])) T := fun _ => rfl
  have hor : Builtin.bitOr (x : Int) (y : Int) = ((x ||| y : Nat) : Int) := bitOr_n x y
  have hl3 : lay 1 (.tuple [.int s, .int f, .int t]) := lay_tuple fun w hw => by
    simp only [List.mem_cons, List.not_mem_nil, or_false] at hw
    rcases hw with rfl | rfl | rfl <;> exact lay_int _
  have hne := tup_ne (O := []) (T := T) [.int s, .int f, .int t] hl3 rfl
  unfold b21K
  refine st_for ⟨[.d (.tuple [.int s, .int f, .int t, .int (x : Int)]), .d (.tuple [.int s, .int f, .int t, .int (y : Int)]), .d (.tuple [.int s, .int f, .int t, .int (p : Int)])], none, T⟩ T (fun i ρ T' => T' = T ∧ ∃ w, ρ = [y0, y1, y2, y3, y4, y5, y6, y7, some (.tup [.ref ka, .d A.2]), some (.tup [.ref kb, .d B.2]), some (.tup [.ref kz, .d Z.2]), some (.tup [.ref kn, .d N.2]), some (.d (.int (k : Int))), w, y14, y15]) ?_ ⟨rfl, _, rfl⟩ (fun _ _ _ _ => rfl) ?_ ?_
  · simp [j0, ia, ib, in_]
  · rintro i u hu ρ T' ⟨rfl, w, rfl⟩
    have hq : ∃ q : Nat, u = .d (.tuple [.int s, .int f, .int t, .int (q : Int)]) ∧ p &&& q = p := by
      have := List.mem_of_getElem? hu
      simp only [List.mem_cons, List.not_mem_nil, or_false] at this
      rcases this with rfl | rfl | rfl
      · exact ⟨x, rfl, hpx⟩
      · exact ⟨y, rfl, hpy⟩
      · exact ⟨p, rfl, by simp⟩
    obtain ⟨q, rfl, hpq⟩ := hq
    have hand : Builtin.bitAnd (p : Int) (q : Int) = (p : Int) := by rw [bitAnd_n, hpq]
    refine ⟨_, asgT_nm .., ?_⟩
    unfold b21I
    refine st_ite (T' := T') false ?_ ?_
    · generalize (p : Int) = pp at *
      generalize (q : Int) = qq at *
      simp [hcut, j0, iz, in_, hne, x3, hand]
    rw [if_neg (by decide)]
    exact st_nil (st_nil ⟨rfl, _, rfl⟩)
  · rintro ρ T' ⟨rfl, w, rfl⟩
    refine st_ite (T' := T') false ?_ ?_
    · generalize ((x ||| y : Nat) : Int) = xy at *
      generalize (x : Int) = xx at *
      generalize (y : Int) = yy at *
      simp [j0, ia, ib, iz, x3, hor]
    rw [if_neg (by decide)]
    exact st_nil (st_nil (h _))
end
end Lk73

set_option Elab.async false
set_option linter.all false
set_option maxRecDepth 100000
set_option maxHeartbeats 4000000
namespace Lk73
open PySem Y
def ResD (R : Nat → Nat → List D × D) : Prop := ∀ d m, m ≤ 400 → lay 3 (.tuple [.list (R d m).1, (R d m).2]) ∧ noB (.tuple [.list (R d m).1, (R d m).2]) = true ∧ lay 2 (R d m).2 ∧ noB (R d m).2 = true ∧ (R d m).1.length ≤ 1000000
def CutC (C : Cn) (R : Nat → Nat → List D × D) (few bound : Nat) : Prop := ∀ (T : Cs) (kS d : Nat), getC [] T kS = some (.lst (R d bound).1) → ∃ u, C.call [] 20 [.tup [.ref kS, .d (R d bound).2], .d (.int few)] T = .ok u T ∧ toD [] T 3 u = some (.tuple [.list (R d few).1, (R d few).2])
section
variable {C : Cn} {pr : List Fn} {L : D} {R : Nat → Nat → List D × D}
theorem z_ok (hR : RunD C pr L R) (hres : ResD R) (few bound : Nat) (hcut : CutC C R few bound) (hfb : few ≤ 400) (k ka kb kz kn one other : Nat) (T : Cs) (hk : getC [] T k = some (.lst (pr.map Fn.dd))) (ga : getC [] T ka = some (.lst (R one bound).1)) (gz : getC [] T kz = some (.lst (R (one ||| other) bound).1)) (y0 y3 y6 y9 y11 y12 y13 y14 y15 : Option U) :
    Wp (denB C [] b21Z [y0, some (.ref k), some (.d L), y3, some (.d (.int one)), some (.d (.int other)), y6, some (.d (.int few)), some (.tup [.ref ka, .d (R one bound).2]), y9, some (.tup [.ref kz, .d (R (one ||| other) bound).2]), y11, y12, y13, y14, y15] T) (fun _ _ => False) (fun _ _ => False) (fun _ _ => False) (fun u _ => u = .d (.bool true)) := by
  have hor : Builtin.bitOr (one : Int) (other : Int) = ((one ||| other : Nat) : Int) := bitOr_n one other
  obtain ⟨c, hc⟩ : ∃ c : Cell, c = .lstU [.tup [.tup [.ref ka, .d (R one bound).2], .d (.int one)], .tup [.tup [.ref kz, .d (R (one ||| other) bound).2], .d (.int ((one ||| other : Nat) : Int))]] := ⟨_, rfl⟩
  have hgl : getC [] (T ++ [c]) T.length = some c := by
    have := getC_k [] (T ++ [c]) T.length
    simp at this
    exact this
  have hk1 : getC [] (T ++ [c]) k = some (.lst (pr.map Fn.dd)) := getC_app hk
  have ga1 : getC [] (T ++ [c]) ka = some (.lst (R one bound).1) := getC_app ga
  have gz1 : getC [] (T ++ [c]) kz = some (.lst (R (one ||| other) bound).1) := getC_app gz
  have hlT : T.length < (T ++ [c]).length := by simp
  unfold b21Z
  refine st_for ⟨[.tup [.tup [.ref ka, .d (R one bound).2], .d (.int one)], .tup [.tup [.ref kz, .d (R (one ||| other) bound).2], .d (.int ((one ||| other : Nat) : Int))]], some T.length, T ++ [c]⟩ (T ++ [c]) (fun i ρ T' => Kept [] (T ++ [c]).length (T ++ [c]) T' ∧ ∃ w14 w15, ρ = [y0, some (.ref k), some (.d L), y3, some (.d (.int one)), some (.d (.int other)), y6, some (.d (.int few)), some (.tup [.ref ka, .d (R one bound).2]), y9, some (.tup [.ref kz, .d (R (one ||| other) bound).2]), y11, y12, y13, w14, w15]) ?_ ⟨Kept.refl _ _ _, _, _, rfl⟩ (fun i ρ T' h => sameW_refl (c := c) hgl (by rw [h.1 _ hlT]; exact hgl) (.inr (.inl ⟨_, hc⟩))) ?_ ?_
  · have hcell : Y.cellOf [.tup [.tup [.ref ka, .d (R one bound).2], .d (.int one)], .tup [.tup [.ref kz, .d (R (one ||| other) bound).2], .d (.int ((one ||| other : Nat) : Int))]] = c := by rw [hc]; rfl
    generalize R one bound = RA at *
    generalize R (one ||| other) bound = RZ at *
    generalize ((one ||| other : Nat) : Int) = oo at *
    simp [mkT_eq, hor, hcell, hgl, watch]
    simp [hc]
  · rintro i u hu ρ T' ⟨hK, w14, w15, rfl⟩
    have hq : ∃ (q d : Nat), u = .tup [.tup [.ref q, .d (R d bound).2], .d (.int d)] ∧ getC [] (T ++ [c]) q = some (.lst (R d bound).1) := by
      have := List.mem_of_getElem? hu
      simp only [List.mem_cons, List.not_mem_nil, or_false] at this
      rcases this with rfl | rfl
      · exact ⟨ka, one, rfl, ga1⟩
      · exact ⟨kz, one ||| other, rfl, gz1⟩
    obtain ⟨q, d, rfl, gq⟩ := hq
    have hkT : getC [] T' k = some (.lst (pr.map Fn.dd)) := by rw [hK k (lt_of hk1)]; exact hk1
    have gqT : getC [] T' q = some (.lst (R d bound).1) := by rw [hK q (lt_of gq)]; exact gq
    obtain ⟨T2, kS, _, hS, hK2, e2⟩ := hR.ok T' k d few hkT hfb
    have gq2 : getC [] T2 q = some (.lst (R d bound).1) := by rw [hK2 q (lt_of gqT)]; exact gqT
    obtain ⟨v, e3, hv⟩ := hcut T2 q d gq2
    have hlen : (T ++ [c]).length ≤ T'.length := by
      by_cases hh : (T ++ [c]).length ≤ T'.length
      · exact hh
      · have h5 := hK ((T ++ [c]).length - 1) (by simp)
        rw [show (T ++ [c]).length - 1 = T.length by simp, hgl] at h5
        have := lt_of h5
        simp
        omega
    have hne := (cmp_same (toD_res (e := (R d few).2) hS) hv ((hres d few hfb).1.shp (by decide)) (hres d few hfb).2.1).2
    refine ⟨[y0, some (.ref k), some (.d L), y3, some (.d (.int one)), some (.d (.int other)), y6, some (.d (.int few)), some (.tup [.ref ka, .d (R one bound).2]), y9, some (.tup [.ref kz, .d (R (one ||| other) bound).2]), y11, y12, y13, some (.tup [.ref q, .d (R d bound).2]), some (.d (.int d))], by simp, ?_⟩
    unfold b21C
    refine st_ite (T' := T2) false ?_ ?_
    · generalize R one bound = RA at *
      generalize R (one ||| other) bound = RZ at *
      simp [e2, e3, hne]
    rw [if_neg (by decide)]
    refine st_nil (st_nil ⟨fun j hj => ?_, _, _, rfl⟩)
    rw [hK2 j (by omega)]
    exact hK j hj
  · rintro ρ T' ⟨hK, w14, w15, rfl⟩
    exact st_ret (u := .d (.bool true)) (T' := T') (den_c _ _ _ _ _) rfl
theorem y_ok (hR : RunD C pr L R) (hres : ResD R) (few bound : Nat) (hcut : CutC C R few bound) (hb : bound ≤ 400) (hfb : few ≤ 400) (k ka kb kz kn one other : Nat) (hAd : AddUp (R one bound) (R other bound) (R (one ||| other) bound) (R 0 bound)) (T : Cs) (hk : getC [] T k = some (.lst (pr.map Fn.dd))) (ga : getC [] T ka = some (.lst (R one bound).1)) (gb : getC [] T kb = some (.lst (R other bound).1)) (gz : getC [] T kz = some (.lst (R (one ||| other) bound).1)) (gn : getC [] T kn = some (.lst (R 0 bound).1)) (y0 y3 y6 y12 y13 y14 y15 : Option U) :
    Wp (denB C [] b21Y [y0, some (.ref k), some (.d L), y3, some (.d (.int one)), some (.d (.int other)), y6, some (.d (.int few)), some (.tup [.ref ka, .d (R one bound).2]), some (.tup [.ref kb, .d (R other bound).2]), some (.tup [.ref kz, .d (R (one ||| other) bound).2]), some (.tup [.ref kn, .d (R 0 bound).2]), y12, y13, y14, y15] T) (fun _ _ => False) (fun _ _ => False) (fun _ _ => False) (fun u _ => u = .d (.bool true)) := by
  have j0 : ∀ (k : Nat) (e : D), ixU [] (.tup [.ref k, .d e]) (.d (.int 0)) T = some (.ref k) := fun _ _ => rfl
  have j1 : ∀ (k : Nat) (e : D), ixU [] (.tup [.ref k, .d e]) (.d (.int 1)) T = some (.d e) := fun _ _ => rfl
  obtain ⟨h1, h2, h3, h4, e1, e2, e3⟩ := hAd
  have l1 := h1.len
  have l2 := h2.len
  have hz := hres (one ||| other) bound hb
  have hne := (cmp_same (O := []) (T := T) (x := .d (R (one ||| other) bound).2) (y := .d (R (one ||| other) bound).2) rfl rfl (hz.2.2.1.shp (by decide)) hz.2.2.2.1).2
  have la := lenB_ref (O := []) (T := T) ga
  have lb := lenB_ref (O := []) (T := T) gb
  have lz := lenB_ref (O := []) (T := T) gz
  have ln := lenB_ref (O := []) (T := T) gn
  rw [l1.1] at la
  rw [l1.2] at lb
  rw [l2.1] at ln
  unfold b21Y
  refine st_ite (T' := T) false ?_ ?_
  · rw [e1, e2, e3]
    generalize (R (one ||| other) bound).2 = q at *
    simp [j1, hne]
  rw [if_neg (by decide)]
  refine st_nil ?_
  refine st_ite (T' := T) false ?_ ?_
  · generalize ((R (one ||| other) bound).1.length : Int) = q at *
    simp [j0, la, lb, lz, ln]
  rw [if_neg (by decide)]
  refine st_nil ?_
  refine st_for ⟨rngU 0 (R (one ||| other) bound).1.length 1, none, T⟩ T (fun i ρ T' => T' = T ∧ ∃ w12 w13, ρ = [y0, some (.ref k), some (.d L), y3, some (.d (.int one)), some (.d (.int other)), y6, some (.d (.int few)), some (.tup [.ref ka, .d (R one bound).2]), some (.tup [.ref kb, .d (R other bound).2]), some (.tup [.ref kz, .d (R (one ||| other) bound).2]), some (.tup [.ref kn, .d (R 0 bound).2]), w12, w13, y14, y15]) ?_ ⟨rfl, _, _, rfl⟩ (fun _ _ _ _ => rfl) ?_ ?_
  · exact rng1_ok (by simp [j0, lz]) hz.2.2.2.2
  · rintro i u hu ρ T' ⟨rfl, w12, w13, rfl⟩
    obtain ⟨hi, rfl⟩ := rngU_get hu
    have hii : (0 + (i : Int) * 1) = (i : Int) := by omega
    rw [hii]
    refine ⟨_, asgT_nm .., ?_⟩
    exact kturn (R one bound) (R other bound) (R (one ||| other) bound) (R 0 bound) ⟨h1, h2, h3, h4, e1, e2, e3⟩ ka kb kz kn ga gb gz gn i hi _ _ _ _ _ _ _ _ _ _ _ (fun w => ⟨rfl, _, _, rfl⟩)
  · rintro ρ T' ⟨rfl, w12, w13, rfl⟩
    exact z_ok hR hres few bound hcut hfb k ka kb kz kn one other T' hk ga gz _ _ _ _ _ _ _ _ _
theorem x_ok (hR : RunD C pr L R) (hres : ResD R) (few bound : Nat) (hcut : CutC C R few bound) (hb : bound ≤ 400) (hfb : few ≤ 400) (k one other : Nat) (hAd : AddUp (R one bound) (R other bound) (R (one ||| other) bound) (R 0 bound)) (T : Cs) (hk : getC [] T k = some (.lst (pr.map Fn.dd))) (y0 y3 y8 y9 y10 y11 y12 y13 y14 y15 : Option U) :
    Wp (denB C [] b21X [y0, some (.ref k), some (.d L), y3, some (.d (.int one)), some (.d (.int other)), some (.d (.int bound)), some (.d (.int few)), y8, y9, y10, y11, y12, y13, y14, y15] T) (fun _ _ => False) (fun _ _ => False) (fun _ _ => False) (fun u _ => u = .d (.bool true)) := by
  have hor : Builtin.bitOr (one : Int) (other : Int) = ((one ||| other : Nat) : Int) := bitOr_n one other
  unfold b21X
  obtain ⟨T1, ka, _, ga, K1, e1⟩ := hR.ok T k one bound hk hb
  refine st_asg (u := .tup [.ref ka, .d (R one bound).2]) (T' := T1) (by simp [e1]) ?_
  have hk1 : getC [] T1 k = some (.lst (pr.map Fn.dd)) := by rw [K1 k (lt_of hk)]; exact hk
  obtain ⟨T2, kb, _, gb, K2, e2⟩ := hR.ok T1 k other bound hk1 hb
  refine st_asg (u := .tup [.ref kb, .d (R other bound).2]) (T' := T2) (by simp [e2]) ?_
  have hk2 : getC [] T2 k = some (.lst (pr.map Fn.dd)) := by rw [K2 k (lt_of hk1)]; exact hk1
  have ga2 : getC [] T2 ka = some (.lst (R one bound).1) := by rw [K2 ka (lt_of ga)]; exact ga
  obtain ⟨T3, kz, _, gz, K3, e3⟩ := hR.ok T2 k (one ||| other) bound hk2 hb
  refine st_asg (u := .tup [.ref kz, .d (R (one ||| other) bound).2]) (T' := T3) (by simp [hor, e3]) ?_
  have hk3 : getC [] T3 k = some (.lst (pr.map Fn.dd)) := by rw [K3 k (lt_of hk2)]; exact hk2
  have ga3 : getC [] T3 ka = some (.lst (R one bound).1) := by rw [K3 ka (lt_of ga2)]; exact ga2
  have gb3 : getC [] T3 kb = some (.lst (R other bound).1) := by rw [K3 kb (lt_of gb)]; exact gb
  obtain ⟨T4, kn, _, gn, K4, e4⟩ := hR.ok T3 k 0 bound hk3 hb
  have e4' : C.call [] 10 [.ref k, .d L, .d (.int 0), .d (.int bound)] T3 = .ok (.tup [.ref kn, .d (R 0 bound).2]) T4 := e4
  refine st_asg (u := .tup [.ref kn, .d (R 0 bound).2]) (T' := T4) (by simp [e4']) ?_
  have hk4 : getC [] T4 k = some (.lst (pr.map Fn.dd)) := by rw [K4 k (lt_of hk3)]; exact hk3
  have ga4 : getC [] T4 ka = some (.lst (R one bound).1) := by rw [K4 ka (lt_of ga3)]; exact ga3
  have gb4 : getC [] T4 kb = some (.lst (R other bound).1) := by rw [K4 kb (lt_of gb3)]; exact gb3
  have gz4 : getC [] T4 kz = some (.lst (R (one ||| other) bound).1) := by rw [K4 kz (lt_of gz)]; exact gz
  exact y_ok hR hres few bound hcut hb hfb k ka kb kz kn one other hAd T4 hk4 ga4 gb4 gz4 gn _ _ _ _ _ _ _
end
theorem bound_at (b : Bool) : ∃ z : Int, L2.atI [PyData.int 40, .int 401] (if b = true then 1 else 0) = some (.int z) ∧ 0 < z ∧ z ≤ 401 := by
  cases b
  · exact ⟨40, rfl, by decide, by decide⟩
  · exact ⟨401, rfl, by decide, by decide⟩
theorem cells_comp {C : Cn} (ns : List Int) (hns : ns.length ≤ 63) (ua : U) (hua : ua = .d (.list (ns.map .int))) (ρ : Rho) (h0 : ρ[0]? = some (some ua)) : ∃ cells : List Int, (∀ a ∈ cells, 0 ≤ a ∧ a ≤ 100) ∧ cells.length ≤ 100 ∧ den C [] ρ (.comp false (.v 0) (.nm 0) (.rng2 (.c (.int 3)) (.bi false .min2 (.cons (.bi false .len (.cons (.v 0) .nil)) (.cons (.c (.int 63)) .nil)))) (.c (.bool true)) []) [] = .ok (.d (.list (cells.map .int))) [] := by
  obtain ⟨m, hm⟩ : ∃ m : Int, m = if 63 < (ns.length : Int) then 63 else (ns.length : Int) := ⟨_, rfl⟩
  have hmb : 0 ≤ m ∧ m ≤ 63 := by rw [hm]; split <;> omega
  have hl : lenB [] [] ua = .ok (.d (.int ns.length)) [] := by rw [hua, lenB_L]; simp
  have hmin : ∀ T, min2B T (.d (.int ns.length)) (.d (.int 63)) = .ok (.d (.int m)) T := fun T => by rw [hm]; rfl
  have hro : rngOk 3 m = true := by simp [rngOk]; omega
  refine ⟨(List.range (m - 3).toNat).map fun k : Nat => 3 + (k : Int), ?_, by simp; omega, ?_⟩
  · intro a ha
    obtain ⟨k, hk, rfl⟩ := List.mem_map.mp ha
    rw [List.mem_range] at hk
    omega
  · have hlt : 0 < ρ.length := (List.getElem?_eq_some_iff.mp h0).1
    refine comp_d (us := rngU 3 (m - 3).toNat 1) (w := none) (tt := []) some ?_ (fun _ => rfl) ?_ (by rw [rngU_len]; omega) ?_
    · rw [denI_rng2, den_c, R.bind_ok]
      have : den C [] ρ (.bi false .min2 (.cons (.bi false .len (.cons (.v 0) .nil)) (.cons (.c (.int 63)) .nil))) [] = .ok (.d (.int m)) [] := by
        simp [h0, hl, biU, hmin]
      rw [this, R.bind_ok]
      simp only
      rw [if_pos hro]
    · intro u hu acc
      have g : ((wipeR ρ []).set 0 (some u))[0]? = some (some u) := by
        simp only [wipeR]
        rw [List.getElem?_set_self hlt]
      exact ⟨(wipeR ρ []).set 0 (some u), asgT_nm .., den_c _ _ _ _ _, by rw [den_v, g]⟩
    · rw [rngU_map, List.filterMap_some]
      simp
theorem main : ∀ ns : List Int, ns.length ≤ 63 → (∀ z ∈ ns, Builtin.Int.intBits z ≤ 1048576) → ∃ T, Y.run G 40 [] 21 [.d (.list (ns.map .int))] [] = .ok (.d (.bool true)) T := by
  intro ns hns hbits
  suffices hg : Gv (Y.run G 40 [] 21 [.d (.list (ns.map .int))] []) fun u T' => u = .d (.bool true) by
    obtain ⟨u, T', e, rfl⟩ := hg.ex
    exact ⟨T', e⟩
  obtain ⟨ua, hua⟩ : ∃ ua : U, ua = .d (.list (ns.map .int)) := ⟨_, rfl⟩
  rw [← hua]
  refine run_wp (n := 39) G21 rfl ?_
  have hcell : ∀ n, CellNOk (cn G (n + 1)) 11 ua := fun n => cellN_run (G := G) rfl n ns hns hbits ua hua
  have hnx : ∀ n, Next3 (cn G (n + 1)) := next3_run
  have hst : ∀ n, State3 (cn G (n + 2)) ua := fun n => state3_run (n + 1) ua (hcell n)
  have hkd : Kind3 (cn G 37) := fun O T r v h => kind3 36 (hnx 35) O T r v h
  have hrow : Row3 (cn G 38) := row3_run 37 (hnx 36)
  have hhd : Heads3 (cn G 38) ua := fun O T => heads3_run 37 ua (hnx 36) (hst 35) O T
  have hpl : Places3 (cn G 38) ua := fun O T k hs h1 h2 h3 h4 cells h5 h6 => places3_run 37 ua (hnx 36) (hst 35) hkd O T k hs h1 h2 h3 h4 cells h5 h6
  obtain ⟨cells, hc1, hc2, hcc⟩ := cells_comp (C := cn G 39) ns hns ua hua [some ua, none, none, none, none, none, none, none, none, none, none, none, none, none, none, none] rfl
  obtain ⟨pr, k, T1, P, hl6, _, hk, hprog⟩ := program3_run 38 ua (hnx 37) (hst 36) hrow hhd hpl [] [] cells hc1 hc2
  have h00 : In 0 pr.length := ⟨Int.le_refl _, by have := P.ne; omega⟩
  have hfn := fnOf_get h00
  have hok := P.ok _ hfn.2
  have hgv := hok.gv
  have hv4 := hok.v4
  have hfx : ixU [] (.ref k) (.d (.int 0)) T1 = some (.d (fnOf pr 0).dd) := by
    refine ixU_at hk ?_
    rw [atI_nat _ _ (by omega) (by simp; have := P.ne; omega)]
    have h0 : pr[0]? = some (fnOf pr 0) := hfn.1
    simp [h0]
  obtain ⟨vs, r, T2, hv, hH, hS2, m2, hvals⟩ := values3_run 38 ua (hnx 37) (hst 36) [] T1 (fnOf pr 0).given (by omega)
  have hN := hnx 38
  obtain ⟨one, T3, o0, o1, m3, e3⟩ := hN [] T2 r 16 hS2 (by decide) (by decide)
  have hS3 := hS2.mv m3
  obtain ⟨other, T4, p0, p1, m4, e4⟩ := hN [] T3 r 16 hS3 (by decide) (by decide)
  have hS4 := hS3.mv m4
  obtain ⟨b8, T5, q0, q1, m5, e5⟩ := hN [] T4 r 8 hS4 (by decide) (by decide)
  have hS5 := hS4.mv m5
  obtain ⟨bb, hbb⟩ : ∃ bb : Bool, bb = decide (b8 = 1) := ⟨_, rfl⟩
  obtain ⟨z, hz, z0, z1⟩ := bound_at bb
  obtain ⟨bd, T6, d0, d1, m6, e6⟩ := hN [] T5 r z hS5 z0 (by omega)
  have hS6 := hS5.mv m6
  obtain ⟨fw, T7, f0, f1, m7, e7⟩ := hN [] T6 r (bd + 1) hS6 (by omega) (by omega)
  have hk7 : getC [] T7 k = some (.lst (pr.map Fn.dd)) := m7.get (m6.get (m5.get (m4.get (m3.get (m2.get hk (fns_not pr)) (fns_not pr)) (fns_not pr)) (fns_not pr)) (fns_not pr)) (fns_not pr)
  obtain ⟨oneN, rfl⟩ : ∃ n : Nat, one = (n : Int) := ⟨one.toNat, by omega⟩
  obtain ⟨otherN, rfl⟩ : ∃ n : Nat, other = (n : Int) := ⟨other.toNat, by omega⟩
  obtain ⟨bdN, rfl⟩ : ∃ n : Nat, bd = (n : Int) := ⟨bd.toNat, by omega⟩
  obtain ⟨fwN, rfl⟩ : ∃ n : Nat, fw = (n : Int) := ⟨fw.toNat, by omega⟩
  have hR : RunD (cn G 39) pr (.list (vs.map .int)) (fun d m => resOf (machM pr (initM pr vs d) m)) := by
    refine ⟨fun T k d m hk hm => ?_⟩
    obtain ⟨T', kS, h1, h2, h3, h4⟩ := run_ok 34 (O := []) (T := T) P hk vs hv hH d m hm
    exact ⟨T', kS, by simpa using h1, h2, by simpa using h3, h4⟩
  have hsts : ∀ d m, ∀ x ∈ (resOf (machM pr (initM pr vs d) m)).1, IsSt x := by
    intro d m
    rw [res_sts]
    refine mach_sts (fun x hx => ?_) _
    have hx : x ∈ [stD 0 0 (frame0 pr vs d)] := hx
    simp only [List.mem_singleton] at hx
    subst hx
    exact is_stD _ _ _
  have hlen : ∀ d m, (resOf (machM pr (initM pr vs d) m)).1.length ≤ 1 + 2 * m := by
    intro d m
    rw [res_sts]
    induction m with
    | zero => exact Nat.le_refl _
    | succ m ih =>
      show (stsOf (stepM pr ((m : Int) + 1) (machM pr (initM pr vs d) m))).length ≤ _
      have hstep : ∀ (s : Int) (M : Mc), (stsOf (stepM pr s M)).length ≤ (stsOf M).length + 2 := by
        intro s M
        cases M with
        | done a v => exact Nat.le_add_right _ _
        | go bl top sts =>
          unfold stepM
          simp only
          split
          · split <;> simp [stsOf]
          · simp [stsOf]
          · simp [stsOf]
      have := hstep ((m : Int) + 1) (machM pr (initM pr vs d) m)
      omega
  have hmb : bdN ≤ 400 := by omega
  have hmf : fwN ≤ bdN := by omega
  have hend : ∀ M : Mc, lay 2 (resOf M).2 ∧ noB (resOf M).2 = true := by
    intro M
    cases M with
    | go bl top sts =>
      refine ⟨(lay_tuple (k := 0) fun x hx => ?_).mono (by decide), rfl⟩
      simp only [List.mem_singleton] at hx
      subst hx
      exact lay_spent
    | done sts v =>
      refine ⟨(lay_tuple (k := 0) fun x hx => ?_).mono (by decide), rfl⟩
      simp only [List.mem_cons, List.not_mem_nil, or_false] at hx
      rcases hx with rfl | rfl
      · exact lay_done
      · exact lay_int _
  have hres : ResD (fun d m => resOf (machM pr (initM pr vs d) m)) := fun d m hm => by
    have h1 := res_ok pr vs d m
    have h2 := hend (machM pr (initM pr vs d) m)
    have h3 := hlen d m
    exact ⟨h1.1, h1.2, h2.1, h2.2, by simp only; omega⟩
  have hcut : CutC (cn G 39) (fun d m => resOf (machM pr (initM pr vs d) m)) fwN bdN := by
    intro T kS d hS
    refine cut3_run 38 [] T kS _ _ fwN hS (hsts d bdN) (Nat.le_trans (hlen d bdN) (by omega)) (resOf (machM pr (initM pr vs d) fwN)) ?_
    exact cut_spec (pr := pr) (m0 := initM pr vs d) trivial (by
      intro x hx
      have hx : x ∈ [stD 0 0 (frame0 pr vs d)] := hx
      simp only [List.mem_singleton] at hx
      subst hx
      exact Int.le_refl _) fwN bdN hmf
  have hfin := x_ok hR hres fwN bdN hcut hmb (by omega) k oneN otherN (addup pr vs oneN otherN bdN) T7 hk7 (some ua) (some (.ref r)) none none none none none none none none
  have hprog' : Y.run G 39 [] 18 [ua, .d (.int 6), .d (.int 4), .d (.list (cells.map .int))] [] = .ok (.ref k) T1 := hprog
  have hvals' : Y.run G 39 [] 19 [ua, .d (.int (fnOf pr 0).given)] T1 = .ok (.tup [.d (.list (vs.map .int)), .ref r]) T2 := hvals
  have hx1 := (fn_x (fnOf pr 0)).1
  have hdd : (fnOf pr 0).dd = .tuple [.str (fnOf pr 0).name, .int (fnOf pr 0).given, .tuple ((fnOf pr 0).vars.map .str), .tuple ((fnOf pr 0).rows.map Rw.dd)] := rfl
  rw [hdd] at hfx
  clear hR hres hcut hend hlen hsts hprog hvals hrow hhd hpl hkd hst hcell hnx hN hdd
  generalize [PyData.str (fnOf pr 0).name, .int (fnOf pr 0).given, .tuple ((fnOf pr 0).vars.map .str), .tuple ((fnOf pr 0).rows.map Rw.dd)] = fl at *
  generalize vs.map PyData.int = vL at *
  generalize cells.map PyData.int = cL at *
  rw [b21_eq]
  show Wp (denB (cn G 39) [] _ [some ua, none, none, none, none, none, none, none, none, none, none, none, none, none, none, none] []) _ _ _ _
  rw [← cn_call] at hprog' hvals'
  generalize cn G 39 = C at *
  refine st_asg (u := .ref k) (T' := T1) (by simp [hcc, hprog', -den_bi]) ?_
  refine st_asgT (u := .tup [.d (.list vL), .ref r]) (T' := T2) (ρ' := [some ua, some (.ref k), some (.d (.list vL)), some (.ref r), none, none, none, none, none, none, none, none, none, none, none, none]) (by simp [hfx, hx1, hvals']) (by simp) ?_
  refine st_asg (u := .d (.int oneN)) (T' := T3) (by simp [e3]) ?_
  refine st_asg (u := .d (.int otherN)) (T' := T4) (by simp [e4]) ?_
  refine st_asg (u := .d (.int bdN)) (T' := T6) ?_ ?_
  · rw [hbb] at hz
    simp only [decide_eq_true_eq] at hz
    simp [e5, hz, e6]
  refine st_asg (u := .d (.int fwN)) (T' := T7) (by simp [e7]) ?_
  exact wp_mono2' hfin
end Lk73

set_option Elab.async false
set_option linter.all false
set_option maxRecDepth 100000
set_option maxHeartbeats 4000000
namespace Lk73
open PySem PySem.Spec PyProof.Rows L2 Y
def top (i : Nat) : Stmt := PySem.Challenge.pw_callmatch_k73_whole_dyes_add_up.main.body.getD i (.Pass ⟨0, 0, 0, 0⟩)
abbrev s1 : Stmt := (inClass (top 2) 0)
abbrev s2 : Stmt := (inClass (top 2) 1)
abbrev s3 : Stmt := (inClass (top 2) 2)
abbrev s4 : Stmt := (top 3)
abbrev s5 : Stmt := (top 4)
abbrev s6 : Stmt := (top 5)
abbrev s7 : Stmt := (top 6)
abbrev s8 : Stmt := (top 7)
abbrev s9 : Stmt := (top 8)
abbrev s10 : Stmt := (top 9)
abbrev s11 : Stmt := (top 11)
abbrev s12 : Stmt := (top 12)
abbrev s13 : Stmt := (top 13)
abbrev s14 : Stmt := (top 14)
abbrev s15 : Stmt := (top 15)
abbrev s16 : Stmt := (top 16)
abbrev s17 : Stmt := (top 17)
abbrev s18 : Stmt := (top 18)
abbrev s19 : Stmt := (top 19)
abbrev s20 : Stmt := (top 20)
abbrev s21 : Stmt := (top 21)
structure EnP (P : Program) (w : World) (K : PySem.W.Frag) (mg : Str → Option Value) (base : Heap) (ca : Nat → Addr) (n : Nat) : Prop where
  b_abs : mg "abs" = none
  b_int : mg "int" = none
  b_len : mg "len" = none
  b_list : mg "list" = none
  b_max : mg "max" = none
  b_min : mg "min" = none
  b_range : mg "range" = none
  b_tuple : mg "tuple" = none
  g_0 : ∃ u v, mg "WRAP" = some u ∧ RelV v u ∧ ∀ G, Rp G v (.int 1000000000000000000)
  n_Frame_due : Cls K (ca 0) ∧ NoAttr K (ca 0) "due"
  n_Frame_dyes : Cls K (ca 0) ∧ NoAttr K (ca 0) "dyes"
  n_Frame_function : Cls K (ca 0) ∧ NoAttr K (ca 0) "function"
  n_Frame_held : Cls K (ca 0) ∧ NoAttr K (ca 0) "held"
  c_11_0 : CalY P w K mg base ca (run G n) (2 * n + 1) 11 2 "_law_cell" []
  c_20_0 : CalY P w K mg base ca (run G n) (2 * n + 1) 20 2 "_law_cut" []
  c_16_0 : CalY P w K mg base ca (run G n) (2 * n + 1) 16 3 "_law_heads" []
  c_14_0 : CalY P w K mg base ca (run G n) (2 * n + 1) 14 2 "_law_kind" []
  c_13_0 : CalY P w K mg base ca (run G n) (2 * n + 1) 13 2 "_law_next" []
  c_17_0 : CalY P w K mg base ca (run G n) (2 * n + 1) 17 3 "_law_places" []
  c_18_0 : CalY P w K mg base ca (run G n) (2 * n + 1) 18 4 "_law_program" []
  c_15_0 : CalY P w K mg base ca (run G n) (2 * n + 1) 15 5 "_law_row" []
  c_12_0 : CalY P w K mg base ca (run G n) (2 * n + 1) 12 2 "_law_state" []
  c_19_0 : CalY P w K mg base ca (run G n) (2 * n + 1) 19 2 "_law_values" []
  c_7_0 : CalY P w K mg base ca (run G n) (2 * n + 1) 7 3 "called" []
  c_6_0 : CalY P w K mg base ca (run G n) (2 * n + 1) 6 2 "do_row" []
  c_9_0 : CalY P w K mg base ca (run G n) (2 * n + 1) 9 5 "given_back" []
  c_4_0 : CalY P w K mg base ca (run G n) (2 * n + 1) 4 4 "new_frame" []
  c_10_0 : CalY P w K mg base ca (run G n) (2 * n + 1) 10 4 "run" []
  c_8_0 : CalY P w K mg base ca (run G n) (2 * n + 1) 8 2 "state_of" []
  c_5_0 : CalY P w K mg base ca (run G n) (2 * n + 1) 5 3 "worked_out" []
  m_3 : MetY P w K mg base ca (run G n) (2 * n + 1) 0 3 2 "is_dyed"
  m_2 : MetY P w K mg base ca (run G n) (2 * n + 1) 0 2 4 "put"
  k_0 : MakY P w K mg base ca (run G n) (2 * n + 1) 0 1 4 "Frame"
theorem EnP.to {X Y : Cx} {ca : Nat → Addr} {n : Nat} (E : EnP X.prog X.w X.K X.mg X.base ca n) (e1 : Y.prog = X.prog) (e2 : Y.w = X.w) (e3 : Y.K = X.K) (e4 : Y.mg = X.mg) (e5 : Y.base = X.base) : EnP Y.prog Y.w Y.K Y.mg Y.base ca n := by
  rw [e1, e2, e3, e4, e5]; exact E
def sc1 : Scope := { kind := .function, names := [("self", .local), ("function", .local), ("held", .local), ("dyes", .local)], isGenerator := false, isCoroutine := false, more := [] }
theorem sc_1 : defScope s1 = sc1 := rfl
theorem fs_1 : FnScope ["self", "function", "held", "dyes"] ["self", "function", "held", "dyes"] sc1 := ⟨rfl, rfl, rfl, by decide +kernel, rfl, by decide +kernel, by decide +kernel⟩
theorem body1 {X : Cx} {ca : Nat → Addr} {n : Nat} (g : Cg X ["self", "function", "held", "dyes"] sc1 [true, true, true, true] [true, true, true, true] (2 * n + 1)) (E : EnP X.prog X.w X.K X.mg X.base ca n) : PSs X (defBody s1) (RBl ca (cn G n) b1) :=
 (b_cons (s_setf E.n_Frame_function (y_v g 0) (y_v g 1))
 (b_cons (s_setf E.n_Frame_due (y_v g 0) y_int)
 (b_cons (s_setf E.n_Frame_held (y_v g 0) (y_v g 2))
 (b_cons (s_setf E.n_Frame_dyes (y_v g 0) (y_v g 3))
 b_nil))))
theorem ok1 {P : Program} {w : World} {K : PySem.W.Frag} {mg : Str → Option Value} {base : Heap} {ca : Nat → Addr} {f : Addr} {fd : FuncData} {n : Nat} (F : Fun K "__init__" "Frame.__init__" s1 f fd) (E : EnP P w K mg base ca n) : FnOk P w K mg base CX0 (2 * n + 2) f fd ["self", "function", "held", "dyes"] (spR ca (run G (n + 1)) 1 4) :=
  def_ok F sc_1 fs_1 G1 rfl rfl (by decide +kernel) (by decide +kernel) (by decide +kernel) fun X e1 e2 e3 e4 e5 g => body1 g (by rw [e1, e2, e3, e4, e5]; exact E)
def sc2 : Scope := { kind := .function, names := [("self", .local), ("x", .local), ("value", .local), ("dyed", .local)], isGenerator := false, isCoroutine := false, more := [] }
theorem sc_2 : defScope s2 = sc2 := rfl
theorem fs_2 : FnScope ["self", "x", "value", "dyed"] ["self", "x", "value", "dyed"] sc2 := ⟨rfl, rfl, rfl, by decide +kernel, rfl, by decide +kernel, by decide +kernel⟩
theorem body2 {X : Cx} {ca : Nat → Addr} {n : Nat} (g : Cg X ["self", "x", "value", "dyed"] sc2 [true, true, true, true] [true, true, true, true] (2 * n + 1)) (E : EnP X.prog X.w X.K X.mg X.base ca n) : PSs X (defBody s2) (RBl ca (cn G n) b2) :=
 (b_cons (s_seti g (y_v g 2) (y_fld E.n_Frame_held (y_v g 0)) (y_v g 1) (hpg := fun h => pg_sub (y_fld E.n_Frame_held (y_v g 0)) (y_v g 1) h))
 (b_cons (s_setf E.n_Frame_dyes (y_v g 0) (y_bin (o := .bor) (y_fld E.n_Frame_dyes (y_v g 0)) (y_bin (o := .shl) y_int (y_v g 1))))
 (b_cons (s_if (t_not (t_e (y_v g 3))) (b_cons (s_setf E.n_Frame_dyes (y_v g 0) (y_bin (o := .bxor) (y_fld E.n_Frame_dyes (y_v g 0)) (y_bin (o := .shl) y_int (y_v g 1))))
  b_nil)
  b_nil)
 b_nil)))
theorem ok2 {P : Program} {w : World} {K : PySem.W.Frag} {mg : Str → Option Value} {base : Heap} {ca : Nat → Addr} {f : Addr} {fd : FuncData} {n : Nat} (F : Fun K "put" "Frame.put" s2 f fd) (E : EnP P w K mg base ca n) : FnOk P w K mg base CX0 (2 * n + 2) f fd ["self", "x", "value", "dyed"] (spR ca (run G (n + 1)) 2 4) :=
  def_ok F sc_2 fs_2 G2 rfl rfl (by decide +kernel) (by decide +kernel) (by decide +kernel) fun X e1 e2 e3 e4 e5 g => body2 g (by rw [e1, e2, e3, e4, e5]; exact E)
def sc3 : Scope := { kind := .function, names := [("self", .local), ("x", .local)], isGenerator := false, isCoroutine := false, more := [] }
theorem sc_3 : defScope s3 = sc3 := rfl
theorem fs_3 : FnScope ["self", "x"] ["self", "x"] sc3 := ⟨rfl, rfl, rfl, by decide +kernel, rfl, by decide +kernel, by decide +kernel⟩
theorem body3 {X : Cx} {ca : Nat → Addr} {n : Nat} (g : Cg X ["self", "x"] sc3 [true, true] [true, true] (2 * n + 1)) (E : EnP X.prog X.w X.K X.mg X.base ca n) : PSs X (defBody s3) (RBl ca (cn G n) b3) :=
 (b_cons (s_ret (y_cm g (o := .eq) (y_bin (o := .band) (y_bin (o := .shr) (y_fld E.n_Frame_dyes (y_v g 0)) (y_v g 1)) y_int) y_int))
 b_nil)
theorem ok3 {P : Program} {w : World} {K : PySem.W.Frag} {mg : Str → Option Value} {base : Heap} {ca : Nat → Addr} {f : Addr} {fd : FuncData} {n : Nat} (F : Fun K "is_dyed" "Frame.is_dyed" s3 f fd) (E : EnP P w K mg base ca n) : FnOk P w K mg base CX0 (2 * n + 2) f fd ["self", "x"] (spR ca (run G (n + 1)) 3 2) :=
  def_ok F sc_3 fs_3 G3 rfl rfl (by decide +kernel) (by decide +kernel) (by decide +kernel) fun X e1 e2 e3 e4 e5 g => body3 g (by rw [e1, e2, e3, e4, e5]; exact E)
def sc4 : Scope := { kind := .function, names := [("program", .local), ("g", .local), ("given", .local), ("dyes", .local), ("more", .local), ("len", .globalImplicit), ("Frame", .globalImplicit), ("list", .globalImplicit)], isGenerator := false, isCoroutine := false, more := [] }
theorem sc_4 : defScope s4 = sc4 := rfl
theorem fs_4 : FnScope ["program", "g", "given", "dyes", "more"] ["program", "g", "given", "dyes"] sc4 := ⟨rfl, rfl, rfl, by decide +kernel, rfl, by decide +kernel, by decide +kernel⟩
theorem body4 {X : Cx} {ca : Nat → Addr} {n : Nat} (g : Cg X ["program", "g", "given", "dyes", "more"] sc4 [true, true, true, true, true] [true, true, true, true, true] (2 * n + 1)) (E : EnP X.prog X.w X.K X.mg X.base ca n) : PSs X (defBody s4) (RBl ca (cn G n) b4) :=
 (b_cons (s_as (y_bin (o := .sub) (f_len g E.b_len (a_cons (y_ix g (y_ix g (y_v g 0) (y_v g 1)) y_int) a_nil)) (f_len g E.b_len (a_cons (y_v g 2) a_nil))) (g_nm g 4))
 (b_cons (s_ret (y_mk g E.k_0 (a_cons (y_v g 1) (a_cons (y_bin (o := .add) (f_list g E.b_list (a_cons (y_v g 2) a_nil)) (y_bin (o := .mul) (y_lst (a_cons y_int a_nil)) (y_v g 4))) (a_cons (y_v g 3) a_nil)))))
 b_nil))
theorem ok4 {P : Program} {w : World} {K : PySem.W.Frag} {mg : Str → Option Value} {base : Heap} {ca : Nat → Addr} {f : Addr} {fd : FuncData} {n : Nat} (F : Fun K "new_frame" "new_frame" s4 f fd) (E : EnP P w K mg base ca n) : FnOk P w K mg base CX0 (2 * n + 2) f fd ["program", "g", "given", "dyes"] (spR ca (run G (n + 1)) 4 4) :=
  def_ok F sc_4 fs_4 G4 rfl rfl (by decide +kernel) (by decide +kernel) (by decide +kernel) fun X e1 e2 e3 e4 e5 g => body4 g (by rw [e1, e2, e3, e4, e5]; exact E)
def sc5 : Scope := { kind := .function, names := [("op", .local), ("one", .local), ("other", .local), ("found", .local), ("WRAP", .globalImplicit)], isGenerator := false, isCoroutine := false, more := [] }
theorem sc_5 : defScope s5 = sc5 := rfl
theorem fs_5 : FnScope ["op", "one", "other", "found"] ["op", "one", "other"] sc5 := ⟨rfl, rfl, rfl, by decide +kernel, rfl, by decide +kernel, by decide +kernel⟩
theorem body5 {X : Cx} {ca : Nat → Addr} {n : Nat} (g : Cg X ["op", "one", "other", "found"] sc5 [true, true, true, true] [true, true, true, true] (2 * n + 1)) (E : EnP X.prog X.w X.K X.mg X.base ca n) : PSs X (defBody s5) (RBl ca (cn G n) b5) :=
 (b_cons (s_as (y_bin (o := .mul) (y_v g 1) (y_v g 2)) (g_nm g 3))
 (b_cons (s_if (t_cm g (o := .eq) (y_v g 0) y_str) (b_cons (s_as (y_bin (o := .add) (y_v g 1) (y_v g 2)) (g_nm g 3))
  b_nil)
  b_nil)
 (b_cons (s_if (t_cm g (o := .eq) (y_v g 0) y_str) (b_cons (s_as (y_bin (o := .sub) (y_v g 1) (y_v g 2)) (g_nm g 3))
  b_nil)
  b_nil)
 (b_cons (s_ret (y_bin (o := .mod) (y_v g 3) (y_g g E.g_0 rfl)))
 b_nil))))
theorem ok5 {P : Program} {w : World} {K : PySem.W.Frag} {mg : Str → Option Value} {base : Heap} {ca : Nat → Addr} {f : Addr} {fd : FuncData} {n : Nat} (F : Fun K "worked_out" "worked_out" s5 f fd) (E : EnP P w K mg base ca n) : FnOk P w K mg base CX0 (2 * n + 2) f fd ["op", "one", "other"] (spR ca (run G (n + 1)) 5 3) :=
  def_ok F sc_5 fs_5 G5 rfl rfl (by decide +kernel) (by decide +kernel) (by decide +kernel) fun X e1 e2 e3 e4 e5 g => body5 g (by rw [e1, e2, e3, e4, e5]; exact E)
def sc6 : Scope := { kind := .function, names := [("frame", .local), ("row", .local), ("word", .local), ("y", .local), ("z", .local), ("value", .local), ("worked_out", .globalImplicit)], isGenerator := false, isCoroutine := false, more := [] }
theorem sc_6 : defScope s6 = sc6 := rfl
theorem fs_6 : FnScope ["frame", "row", "word", "y", "z", "value"] ["frame", "row"] sc6 := ⟨rfl, rfl, rfl, by decide +kernel, rfl, by decide +kernel, by decide +kernel⟩
theorem body6 {X : Cx} {ca : Nat → Addr} {n : Nat} (g : Cg X ["frame", "row", "word", "y", "z", "value"] sc6 [true, true, true, true, true, true] [true, true, true, true, true, true] (2 * n + 1)) (E : EnP X.prog X.w X.K X.mg X.base ca n) : PSs X (defBody s6) (RBl ca (cn G n) b6) :=
 (b_cons (s_as (y_ix g (y_v g 1) y_int) (g_nm g 2))
 (b_cons (s_setf E.n_Frame_due (y_v g 0) (y_bin (o := .add) (y_fld E.n_Frame_due (y_v g 0)) y_int))
 (b_cons (s_if (t_cm g (o := .eq) (y_v g 2) y_str) (b_cons (s_ex (y_mc g E.m_2 (y_v g 0) (a_cons (y_ix g (y_v g 1) y_int) (a_cons (y_ix g (y_v g 1) y_int) (a_cons y_bl a_nil)))))
  b_nil)
  (b_cons (s_if (t_cm g (o := .eq) (y_v g 2) y_str) (b_cons (s_ex (y_mc g E.m_2 (y_v g 0) (a_cons (y_ix g (y_v g 1) y_int) (a_cons (y_ix g (y_fld E.n_Frame_held (y_v g 0)) (y_ix g (y_v g 1) y_int)) (a_cons (y_mc g E.m_3 (y_v g 0) (a_cons (y_ix g (y_v g 1) y_int) a_nil)) a_nil)))))
   b_nil)
   (b_cons (s_if (t_cm g (o := .eq) (y_v g 2) y_str) (b_cons (s_as (y_ix g (y_v g 1) y_int) (g_nm g 3))
    (b_cons (s_as (y_ix g (y_v g 1) y_int) (g_nm g 4))
    (b_cons (s_as (y_call g E.c_5_0 (a_cons (y_ix g (y_v g 1) y_int) (a_cons (y_ix g (y_fld E.n_Frame_held (y_v g 0)) (y_v g 3)) (a_cons (y_ix g (y_fld E.n_Frame_held (y_v g 0)) (y_v g 4)) a_nil)))) (g_nm g 5))
    (b_cons (s_ex (y_mc g E.m_2 (y_v g 0) (a_cons (y_ix g (y_v g 1) y_int) (a_cons (y_v g 5) (a_cons (y_or (y_mc g E.m_3 (y_v g 0) (a_cons (y_v g 3) a_nil)) (y_one (y_mc g E.m_3 (y_v g 0) (a_cons (y_v g 4) a_nil)))) a_nil)))))
    b_nil))))
    (b_cons (s_if (t_w (w_or (t_cm g (o := .eq) (y_v g 2) y_str) (w_or1 (t_cm g (o := .eq) (y_v g 2) y_str)))) (b_cons (s_ex (y_mc g E.m_2 (y_v g 0) (a_cons (y_ix g (y_v g 1) y_int) (a_cons (y_ix g (y_fld E.n_Frame_held (y_v g 0)) (y_ix g (y_v g 1) y_int)) (a_cons (y_cm g (o := .eq) (y_v g 2) y_str) a_nil)))))
     b_nil)
     (b_cons (s_if (t_cm g (o := .eq) (y_v g 2) y_str) (b_cons (s_setf E.n_Frame_due (y_v g 0) (y_ix g (y_v g 1) y_int))
      b_nil)
      (b_cons (s_if (t_cm g (o := .ne) (y_ix g (y_fld E.n_Frame_held (y_v g 0)) (y_ix g (y_v g 1) y_int)) y_int) (b_cons (s_setf E.n_Frame_due (y_v g 0) (y_ix g (y_v g 1) y_int))
       b_nil)
       b_nil)
      b_nil))
     b_nil))
    b_nil))
   b_nil))
  b_nil))
 b_nil)))
theorem ok6 {P : Program} {w : World} {K : PySem.W.Frag} {mg : Str → Option Value} {base : Heap} {ca : Nat → Addr} {f : Addr} {fd : FuncData} {n : Nat} (F : Fun K "do_row" "do_row" s6 f fd) (E : EnP P w K mg base ca n) : FnOk P w K mg base CX0 (2 * n + 2) f fd ["frame", "row"] (spR ca (run G (n + 1)) 6 2) :=
  def_ok F sc_6 fs_6 G6 rfl rfl (by decide +kernel) (by decide +kernel) (by decide +kernel) fun X e1 e2 e3 e4 e5 g => body6 g (by rw [e1, e2, e3, e4, e5]; exact E)
def sc7 : Scope := { kind := .function, names := [("program", .local), ("frame", .cell), ("row", .local), ("dyes", .local), ("k", .local), ("range", .globalImplicit), ("len", .globalImplicit), ("int", .globalImplicit), ("new_frame", .globalImplicit)], isGenerator := false, isCoroutine := false, more := [("fast", .str "program"), ("fast", .str "frame"), ("fast", .str "row"), ("fast", .str "dyes"), ("fast", .str "k"), ("fast", .str "x")] }
theorem sc_7 : defScope s7 = sc7 := rfl
theorem fs_7 : FnScope ["program", "frame", "row", "dyes", "k", "x"] ["program", "frame", "row"] sc7 := ⟨rfl, rfl, rfl, by decide +kernel, rfl, by decide +kernel, by decide +kernel⟩
theorem body7 {X : Cx} {ca : Nat → Addr} {n : Nat} (g : Cg X ["program", "frame", "row", "dyes", "k", "x"] sc7 [true, true, true, true, true, false] [true, true, true, true, true, false] (2 * n + 1)) (E : EnP X.prog X.w X.K X.mg X.base ca n) : PSs X (defBody s7) (RBl ca (cn G n) b7) :=
 (b_cons (s_as y_int (g_nm g 3))
 (b_cons (s_for g (i_r1 g E.b_range (f_len g E.b_len (a_cons (y_ix g (y_v g 2) y_int) a_nil))) (g_nm g 4) (b_cons (s_as (y_bin (o := .bor) (y_v g 3) (y_bin (o := .shl) (f_int g E.b_int (a_cons (y_mc g E.m_3 (y_v g 1) (a_cons (y_ix g (y_ix g (y_v g 2) y_int) (y_v g 4)) a_nil)) a_nil)) (y_v g 4))) (g_nm g 3))
  b_nil))
 (b_cons (s_ret (y_call g E.c_4_0 (a_cons (y_v g 0) (a_cons (y_ix g (y_v g 2) y_int) (a_cons (y_lc g (own := [("x", 5)]) { kind := .function, names := [(".0", .local), ("x", .local), ("frame", .cell)], isGenerator := false, isCoroutine := false, more := [] } [false, true, false, false, false, true] [false, false, false, false, false, true] (by decide +kernel) (by decide +kernel) (by decide +kernel) (by decide +kernel) (by decide +kernel) (i_tup (y_ix g (y_v g 2) y_int))
 (fun Y e1 e2 e3 e4 e5 g1 => have E1 := E.to e1 e2 e3 e4 e5
  ⟨(g_nm g1 5), c_no, (y_ix g1 (y_fld E1.n_Frame_held (y_v g1 1)) (y_v g1 5))⟩)) (a_cons (y_v g 3) a_nil))))))
 b_nil)))
theorem ok7 {P : Program} {w : World} {K : PySem.W.Frag} {mg : Str → Option Value} {base : Heap} {ca : Nat → Addr} {f : Addr} {fd : FuncData} {n : Nat} (F : Fun K "called" "called" s7 f fd) (E : EnP P w K mg base ca n) : FnOk P w K mg base CX0 (2 * n + 2) f fd ["program", "frame", "row"] (spR ca (run G (n + 1)) 7 3) :=
  def_ok F sc_7 fs_7 G7 rfl rfl (by decide +kernel) (by decide +kernel) (by decide +kernel) fun X e1 e2 e3 e4 e5 g => body7 g (by rw [e1, e2, e3, e4, e5]; exact E)
def sc8 : Scope := { kind := .function, names := [("steps", .local), ("frame", .local)], isGenerator := false, isCoroutine := false, more := [] }
theorem sc_8 : defScope s8 = sc8 := rfl
theorem fs_8 : FnScope ["steps", "frame"] ["steps", "frame"] sc8 := ⟨rfl, rfl, rfl, by decide +kernel, rfl, by decide +kernel, by decide +kernel⟩
theorem body8 {X : Cx} {ca : Nat → Addr} {n : Nat} (g : Cg X ["steps", "frame"] sc8 [true, true] [true, true] (2 * n + 1)) (E : EnP X.prog X.w X.K X.mg X.base ca n) : PSs X (defBody s8) (RBl ca (cn G n) b8) :=
 (b_cons (s_ret (y_tup (a_cons (y_v g 0) (a_cons (y_fld E.n_Frame_function (y_v g 1)) (a_cons (y_fld E.n_Frame_due (y_v g 1)) (a_cons (y_bin (o := .bor) y_int (y_bin (o := .shl) (y_fld E.n_Frame_dyes (y_v g 1)) y_int)) a_nil))))))
 b_nil)
theorem ok8 {P : Program} {w : World} {K : PySem.W.Frag} {mg : Str → Option Value} {base : Heap} {ca : Nat → Addr} {f : Addr} {fd : FuncData} {n : Nat} (F : Fun K "state_of" "state_of" s8 f fd) (E : EnP P w K mg base ca n) : FnOk P w K mg base CX0 (2 * n + 2) f fd ["steps", "frame"] (spR ca (run G (n + 1)) 8 2) :=
  def_ok F sc_8 fs_8 G8 rfl rfl (by decide +kernel) (by decide +kernel) (by decide +kernel) fun X e1 e2 e3 e4 e5 g => body8 g (by rw [e1, e2, e3, e4, e5]; exact E)
def sc9 : Scope := { kind := .function, names := [("program", .local), ("frames", .local), ("row", .local), ("steps", .local), ("states", .local), ("frame", .local), ("name", .local), ("given", .local), ("variables", .local), ("rows", .local), ("value", .local), ("dyed", .local), ("over", .local), ("len", .globalImplicit), ("int", .globalImplicit), ("state_of", .globalImplicit)], isGenerator := false, isCoroutine := false, more := [] }
theorem sc_9 : defScope s9 = sc9 := rfl
theorem fs_9 : FnScope ["program", "frames", "row", "steps", "states", "frame", "name", "given", "variables", "rows", "value", "dyed", "over"] ["program", "frames", "row", "steps", "states"] sc9 := ⟨rfl, rfl, rfl, by decide +kernel, rfl, by decide +kernel, by decide +kernel⟩
theorem body9 {X : Cx} {ca : Nat → Addr} {n : Nat} (g : Cg X ["program", "frames", "row", "steps", "states", "frame", "name", "given", "variables", "rows", "value", "dyed", "over"] sc9 [true, true, true, true, true, true, true, true, true, true, true, true, true] [true, true, true, true, true, true, true, true, true, true, true, true, true] (2 * n + 1)) (E : EnP X.prog X.w X.K X.mg X.base ca n) : PSs X (defBody s9) (RBl ca (cn G n) b9) :=
 (b_cons (s_as (m_pop g (y_v g 1)) (g_nm g 5))
 (b_cons (s_as (y_ix g (y_v g 0) (y_fld E.n_Frame_function (y_v g 5))) (g_tp g (g_cons (g_nm g 6) (g_cons (g_nm g 7) (g_cons (g_nm g 8) (g_cons (g_nm g 9) g_nil))))))
 (b_cons (s_as (y_ix g (y_fld E.n_Frame_held (y_v g 5)) (y_ix g (y_v g 2) y_int)) (g_nm g 10))
 (b_cons (s_as (y_mc g E.m_3 (y_v g 5) (a_cons (y_ix g (y_v g 2) y_int) a_nil)) (g_nm g 11))
 (b_cons (s_ex (m_append g (y_v g 4) (a_cons (y_tup (a_cons (y_v g 3) (a_cons (y_fld E.n_Frame_function (y_v g 5)) (a_cons (f_len g E.b_len (a_cons (y_v g 9) a_nil)) (a_cons (y_bin (o := .bor) y_int (y_bin (o := .shl) (f_int g E.b_int (a_cons (y_v g 11) a_nil)) (y_bin (o := .add) (f_len g E.b_len (a_cons (y_v g 8) a_nil)) y_int))) a_nil))))) a_nil)))
 (b_cons (s_if (t_cm g (o := .gt) (f_len g E.b_len (a_cons (y_v g 1) a_nil)) y_int) (b_cons (s_as (y_ix g (y_v g 1) (y_bin (o := .sub) (f_len g E.b_len (a_cons (y_v g 1) a_nil)) y_int)) (g_nm g 12))
  (b_cons (s_ex (y_mc g E.m_2 (y_v g 12) (a_cons (y_ix g (y_ix g (y_ix g (y_ix g (y_v g 0) (y_fld E.n_Frame_function (y_v g 12))) y_int) (y_fld E.n_Frame_due (y_v g 12))) y_int) (a_cons (y_v g 10) (a_cons (y_v g 11) a_nil)))))
  (b_cons (s_setf E.n_Frame_due (y_v g 12) (y_bin (o := .add) (y_fld E.n_Frame_due (y_v g 12)) y_int))
  (b_cons (s_ex (m_append g (y_v g 4) (a_cons (y_call g E.c_8_0 (a_cons (y_v g 3) (a_cons (y_v g 12) a_nil))) a_nil)))
  b_nil))))
  b_nil)
 (b_cons (s_ret (y_v g 10))
 b_nil)))))))
theorem ok9 {P : Program} {w : World} {K : PySem.W.Frag} {mg : Str → Option Value} {base : Heap} {ca : Nat → Addr} {f : Addr} {fd : FuncData} {n : Nat} (F : Fun K "given_back" "given_back" s9 f fd) (E : EnP P w K mg base ca n) : FnOk P w K mg base CX0 (2 * n + 2) f fd ["program", "frames", "row", "steps", "states"] (spR ca (run G (n + 1)) 9 5) :=
  def_ok F sc_9 fs_9 G9 rfl rfl (by decide +kernel) (by decide +kernel) (by decide +kernel) fun X e1 e2 e3 e4 e5 g => body9 g (by rw [e1, e2, e3, e4, e5]; exact E)
def sc10 : Scope := { kind := .function, names := [("program", .local), ("values", .local), ("dyed", .local), ("most", .local), ("frames", .local), ("states", .local), ("steps", .local), ("frame", .local), ("row", .local), ("value", .local), ("new_frame", .globalImplicit), ("state_of", .globalImplicit), ("range", .globalImplicit), ("len", .globalImplicit), ("given_back", .globalImplicit), ("called", .globalImplicit), ("do_row", .globalImplicit)], isGenerator := false, isCoroutine := false, more := [] }
theorem sc_10 : defScope s10 = sc10 := rfl
theorem fs_10 : FnScope ["program", "values", "dyed", "most", "frames", "states", "steps", "frame", "row", "value"] ["program", "values", "dyed", "most"] sc10 := ⟨rfl, rfl, rfl, by decide +kernel, rfl, by decide +kernel, by decide +kernel⟩
theorem body10 {X : Cx} {ca : Nat → Addr} {n : Nat} (g : Cg X ["program", "values", "dyed", "most", "frames", "states", "steps", "frame", "row", "value"] sc10 [true, true, true, true, true, true, true, true, true, true] [true, true, true, true, true, true, true, true, true, true] (2 * n + 1)) (E : EnP X.prog X.w X.K X.mg X.base ca n) : PSs X (defBody s10) (RBl ca (cn G n) b10) :=
 (b_cons (s_as (y_lst (a_cons (y_call g E.c_4_0 (a_cons (y_v g 0) (a_cons y_int (a_cons (y_v g 1) (a_cons (y_bin (o := .band) (y_v g 2) (y_bin (o := .sub) (y_bin (o := .shl) y_int (y_ix g (y_ix g (y_v g 0) y_int) y_int)) y_int)) a_nil))))) a_nil)) (g_nm g 4))
 (b_cons (s_as (y_lst (a_cons (y_call g E.c_8_0 (a_cons y_int (a_cons (y_ix g (y_v g 4) y_int) a_nil))) a_nil)) (g_nm g 5))
 (b_cons (s_for g (i_r2 g E.b_range y_int (y_bin (o := .add) (y_v g 3) y_int)) (g_nm g 6) (b_cons (s_as (y_ix g (y_v g 4) (y_bin (o := .sub) (f_len g E.b_len (a_cons (y_v g 4) a_nil)) y_int)) (g_nm g 7))
  (b_cons (s_as (y_ix g (y_ix g (y_ix g (y_v g 0) (y_fld E.n_Frame_function (y_v g 7))) y_int) (y_fld E.n_Frame_due (y_v g 7))) (g_nm g 8))
  (b_cons (s_if (t_cm g (o := .eq) (y_ix g (y_v g 8) y_int) y_str) (b_cons (s_as (y_call g E.c_9_0 (a_cons (y_v g 0) (a_cons (y_v g 4) (a_cons (y_v g 8) (a_cons (y_v g 6) (a_cons (y_v g 5) a_nil)))))) (g_nm g 9))
   (b_cons (s_if (t_cm g (o := .eq) (f_len g E.b_len (a_cons (y_v g 4) a_nil)) y_int) (b_cons (s_ret (y_tup (a_cons (y_v g 5) (a_cons (y_tup (a_cons y_str (a_cons (y_v g 9) a_nil))) a_nil))))
    b_nil)
    b_nil)
   b_nil))
   (b_cons (s_if (t_cm g (o := .eq) (y_ix g (y_v g 8) y_int) y_str) (b_cons (s_as (y_call g E.c_7_0 (a_cons (y_v g 0) (a_cons (y_v g 7) (a_cons (y_v g 8) a_nil)))) (g_nm g 7))
    (b_cons (s_ex (m_append g (y_v g 4) (a_cons (y_v g 7) a_nil)))
    b_nil))
    (b_cons (s_ex (y_call g E.c_6_0 (a_cons (y_v g 7) (a_cons (y_v g 8) a_nil))))
    b_nil))
   (b_cons (s_ex (m_append g (y_v g 5) (a_cons (y_call g E.c_8_0 (a_cons (y_v g 6) (a_cons (y_v g 7) a_nil))) a_nil)))
   b_nil)))
  b_nil))))
 (b_cons (s_ret (y_tup (a_cons (y_v g 5) (a_cons (y_tup (a_cons y_str a_nil)) a_nil))))
 b_nil))))
theorem ok10 {P : Program} {w : World} {K : PySem.W.Frag} {mg : Str → Option Value} {base : Heap} {ca : Nat → Addr} {f : Addr} {fd : FuncData} {n : Nat} (F : FunD K "run" "run" (defArgs s10) (defBody s10) (defScope s10) [V.int 0, V.int 400] [] f fd) (E : EnP P w K mg base ca n) : FnOk P w K mg base CX0 (2 * n + 2) f fd ["program", "values", "dyed", "most"] (spR ca (run G (n + 1)) 10 4) :=
  def_okD F sc_10 fs_10 G10 rfl rfl (by decide +kernel) (by decide +kernel) (by decide +kernel) fun X e1 e2 e3 e4 e5 g => body10 g (by rw [e1, e2, e3, e4, e5]; exact E)
def sc11 : Scope := { kind := .function, names := [("_law_script", .local), ("_law_k", .local), ("_law_number", .local), ("len", .globalImplicit)], isGenerator := false, isCoroutine := false, more := [] }
theorem sc_11 : defScope s11 = sc11 := rfl
theorem fs_11 : FnScope ["_law_script", "_law_k", "_law_number"] ["_law_script", "_law_k"] sc11 := ⟨rfl, rfl, rfl, by decide +kernel, rfl, by decide +kernel, by decide +kernel⟩
theorem body11 {X : Cx} {ca : Nat → Addr} {n : Nat} (g : Cg X ["_law_script", "_law_k", "_law_number"] sc11 [true, true, true] [true, true, true] (2 * n + 1)) (E : EnP X.prog X.w X.K X.mg X.base ca n) : PSs X (defBody s11) (RBl ca (cn G n) b11) :=
 (b_cons (s_if (t_cm g (o := .lt) (y_v g 1) (f_len g E.b_len (a_cons (y_v g 0) a_nil))) (b_cons (s_ret (y_ix g (y_v g 0) (y_v g 1)))
  b_nil)
  b_nil)
 (b_cons (s_as (y_bin (o := .add) (y_bin (o := .mul) y_int (y_v g 1)) y_int) (g_nm g 2))
 (b_cons (s_if (t_cm g (o := .gt) (f_len g E.b_len (a_cons (y_v g 0) a_nil)) y_int) (b_cons (s_as (y_bin (o := .add) (y_v g 2) (y_bin (o := .mul) y_int (y_ix g (y_v g 0) (y_bin (o := .mod) (y_bin (o := .mul) y_int (y_v g 1)) (f_len g E.b_len (a_cons (y_v g 0) a_nil)))))) (g_nm g 2))
  b_nil)
  b_nil)
 (b_cons (s_ret (y_bin (o := .mod) (y_bin (o := .mul) (y_v g 2) (y_v g 2)) y_int))
 b_nil))))
theorem ok11 {P : Program} {w : World} {K : PySem.W.Frag} {mg : Str → Option Value} {base : Heap} {ca : Nat → Addr} {f : Addr} {fd : FuncData} {n : Nat} (F : Fun K "_law_cell" "_law_cell" s11 f fd) (E : EnP P w K mg base ca n) : FnOk P w K mg base CX0 (2 * n + 2) f fd ["_law_script", "_law_k"] (spR ca (run G (n + 1)) 11 2) :=
  def_ok F sc_11 fs_11 G11 rfl rfl (by decide +kernel) (by decide +kernel) (by decide +kernel) fun X e1 e2 e3 e4 e5 g => body11 g (by rw [e1, e2, e3, e4, e5]; exact E)
def sc12 : Scope := { kind := .function, names := [("_law_script", .local), ("_law_k", .local), ("_law_cell_here", .local), ("_law_free", .local), ("_law_cell", .globalImplicit), ("abs", .globalImplicit), ("int", .globalImplicit)], isGenerator := false, isCoroutine := false, more := [] }
theorem sc_12 : defScope s12 = sc12 := rfl
theorem fs_12 : FnScope ["_law_script", "_law_k", "_law_cell_here", "_law_free"] ["_law_script", "_law_k"] sc12 := ⟨rfl, rfl, rfl, by decide +kernel, rfl, by decide +kernel, by decide +kernel⟩
theorem body12 {X : Cx} {ca : Nat → Addr} {n : Nat} (g : Cg X ["_law_script", "_law_k", "_law_cell_here", "_law_free"] sc12 [true, true, true, true] [true, true, true, true] (2 * n + 1)) (E : EnP X.prog X.w X.K X.mg X.base ca n) : PSs X (defBody s12) (RBl ca (cn G n) b12) :=
 (b_cons (s_as (y_call g E.c_11_0 (a_cons (y_v g 0) (a_cons (y_v g 1) a_nil))) (g_nm g 2))
 (b_cons (s_as (y_cm g (o := .ge) (f_abs g E.b_abs (a_cons (y_v g 2) a_nil)) (y_bin (o := .pow) y_int y_int)) (g_nm g 3))
 (b_cons (s_ret (y_lst (a_cons (y_bin (o := .mul) (f_abs g E.b_abs (a_cons (y_v g 2) a_nil)) (f_int g E.b_int (a_cons (y_v g 3) a_nil))) (a_cons (y_bin (o := .mod) (y_bin (o := .add) (y_bin (o := .add) (y_bin (o := .mul) (y_v g 2) y_int) (y_bin (o := .mul) y_int (y_v g 1))) y_int) y_int) (a_cons (y_v g 3) a_nil)))))
 b_nil)))
theorem ok12 {P : Program} {w : World} {K : PySem.W.Frag} {mg : Str → Option Value} {base : Heap} {ca : Nat → Addr} {f : Addr} {fd : FuncData} {n : Nat} (F : Fun K "_law_state" "_law_state" s12 f fd) (E : EnP P w K mg base ca n) : FnOk P w K mg base CX0 (2 * n + 2) f fd ["_law_script", "_law_k"] (spR ca (run G (n + 1)) 12 2) :=
  def_ok F sc_12 fs_12 G12 rfl rfl (by decide +kernel) (by decide +kernel) (by decide +kernel) fun X e1 e2 e3 e4 e5 g => body12 g (by rw [e1, e2, e3, e4, e5]; exact E)
def sc13 : Scope := { kind := .function, names := [("_law_state_here", .local), ("_law_many", .local), ("_law_number", .local), ("_law_one", .local)], isGenerator := false, isCoroutine := false, more := [] }
theorem sc_13 : defScope s13 = sc13 := rfl
theorem fs_13 : FnScope ["_law_state_here", "_law_many", "_law_number", "_law_one"] ["_law_state_here", "_law_many"] sc13 := ⟨rfl, rfl, rfl, by decide +kernel, rfl, by decide +kernel, by decide +kernel⟩
theorem body13 {X : Cx} {ca : Nat → Addr} {n : Nat} (g : Cg X ["_law_state_here", "_law_many", "_law_number", "_law_one"] sc13 [true, true, true, true] [true, true, true, true] (2 * n + 1)) (E : EnP X.prog X.w X.K X.mg X.base ca n) : PSs X (defBody s13) (RBl ca (cn G n) b13) :=
 (b_cons (s_as (y_ix g (y_v g 0) y_int) (g_nm g 2))
 (b_cons (s_if (t_cm g (o := .gt) (y_v g 2) y_int) (b_cons (s_seti g (y_bin (o := .fdiv) (y_v g 2) (y_v g 1)) (y_v g 0) y_int (hpg := fun h => pg_sub (y_v g 0) y_int h))
  (b_cons (s_ret (y_bin (o := .mod) (y_v g 2) (y_v g 1)))
  b_nil))
  b_nil)
 (b_cons (s_as (y_bin (o := .mod) (y_bin (o := .add) (y_bin (o := .mul) (y_ix g (y_v g 0) y_int) y_int) y_int) y_int) (g_nm g 3))
 (b_cons (s_seti g (y_bin (o := .mod) (y_bin (o := .add) (y_bin (o := .mul) (y_v g 3) y_int) y_int) y_int) (y_v g 0) y_int (hpg := fun h => pg_sub (y_v g 0) y_int h))
 (b_cons (s_ret (y_bin (o := .mod) (y_bin (o := .add) (y_bin (o := .mul) (y_v g 3) y_int) (y_ix g (y_v g 0) y_int)) (y_v g 1)))
 b_nil)))))
theorem ok13 {P : Program} {w : World} {K : PySem.W.Frag} {mg : Str → Option Value} {base : Heap} {ca : Nat → Addr} {f : Addr} {fd : FuncData} {n : Nat} (F : Fun K "_law_next" "_law_next" s13 f fd) (E : EnP P w K mg base ca n) : FnOk P w K mg base CX0 (2 * n + 2) f fd ["_law_state_here", "_law_many"] (spR ca (run G (n + 1)) 13 2) :=
  def_ok F sc_13 fs_13 G13 rfl rfl (by decide +kernel) (by decide +kernel) (by decide +kernel) fun X e1 e2 e3 e4 e5 g => body13 g (by rw [e1, e2, e3, e4, e5]; exact E)
def sc14 : Scope := { kind := .function, names := [("_law_state_here", .local), ("_law_v", .local), ("_law_some", .local), ("_law_next", .globalImplicit), ("len", .globalImplicit)], isGenerator := false, isCoroutine := false, more := [] }
theorem sc_14 : defScope s14 = sc14 := rfl
theorem fs_14 : FnScope ["_law_state_here", "_law_v", "_law_some"] ["_law_state_here", "_law_v"] sc14 := ⟨rfl, rfl, rfl, by decide +kernel, rfl, by decide +kernel, by decide +kernel⟩
theorem body14 {X : Cx} {ca : Nat → Addr} {n : Nat} (g : Cg X ["_law_state_here", "_law_v", "_law_some"] sc14 [true, true, true] [true, true, true] (2 * n + 1)) (E : EnP X.prog X.w X.K X.mg X.base ca n) : PSs X (defBody s14) (RBl ca (cn G n) b14) :=
 (b_cons (s_as (y_lst (a_cons y_str (a_cons y_str (a_cons y_str (a_cons y_str (a_cons y_str (a_cons y_str (a_cons y_str (a_cons y_str (a_cons y_str a_nil)))))))))) (g_nm g 2))
 (b_cons (s_if (t_cm g (o := .eq) (y_v g 1) y_int) (b_cons (s_ret y_str)
  b_nil)
  b_nil)
 (b_cons (s_if (t_not (t_e (y_ix g (y_v g 0) y_int))) (b_cons (s_as (y_bin (o := .add) (y_v g 2) (y_lst (a_cons y_str (a_cons y_str (a_cons y_str (a_cons y_str (a_cons y_str (a_cons y_str (a_cons y_str (a_cons y_str a_nil)))))))))) (g_nm g 2))
  b_nil)
  b_nil)
 (b_cons (s_ret (y_ix g (y_v g 2) (y_call g E.c_13_0 (a_cons (y_v g 0) (a_cons (f_len g E.b_len (a_cons (y_v g 2) a_nil)) a_nil)))))
 b_nil))))
theorem ok14 {P : Program} {w : World} {K : PySem.W.Frag} {mg : Str → Option Value} {base : Heap} {ca : Nat → Addr} {f : Addr} {fd : FuncData} {n : Nat} (F : Fun K "_law_kind" "_law_kind" s14 f fd) (E : EnP P w K mg base ca n) : FnOk P w K mg base CX0 (2 * n + 2) f fd ["_law_state_here", "_law_v"] (spR ca (run G (n + 1)) 14 2) :=
  def_ok F sc_14 fs_14 G14 rfl rfl (by decide +kernel) (by decide +kernel) (by decide +kernel) fun X e1 e2 e3 e4 e5 g => body14 g (by rw [e1, e2, e3, e4, e5]; exact E)
def sc15 : Scope := { kind := .function, names := [("_law_state_here", .cell), ("_law_kind_here", .local), ("_law_v", .cell), ("_law_heads_here", .local), ("_law_many", .local), ("_law_x", .local), ("_law_g", .local), ("_law_next", .globalImplicit), ("len", .globalImplicit), ("tuple", .globalImplicit), ("range", .globalImplicit)], isGenerator := false, isCoroutine := false, more := [("fast", .str "_law_state_here"), ("fast", .str "_law_kind_here"), ("fast", .str "_law_v"), ("fast", .str "_law_heads_here"), ("fast", .str "_law_many"), ("fast", .str "_law_x"), ("fast", .str "_law_g"), ("fast", .str "_law_k")] }
theorem sc_15 : defScope s15 = sc15 := rfl
theorem fs_15 : FnScope ["_law_state_here", "_law_kind_here", "_law_v", "_law_heads_here", "_law_many", "_law_x", "_law_g", "_law_k"] ["_law_state_here", "_law_kind_here", "_law_v", "_law_heads_here", "_law_many"] sc15 := ⟨rfl, rfl, rfl, by decide +kernel, rfl, by decide +kernel, by decide +kernel⟩
theorem body15 {X : Cx} {ca : Nat → Addr} {n : Nat} (g : Cg X ["_law_state_here", "_law_kind_here", "_law_v", "_law_heads_here", "_law_many", "_law_x", "_law_g", "_law_k"] sc15 [true, true, true, true, true, true, true, false] [true, true, true, true, true, true, true, false] (2 * n + 1)) (E : EnP X.prog X.w X.K X.mg X.base ca n) : PSs X (defBody s15) (RBl ca (cn G n) b15) :=
 (b_cons (s_if (t_cm g (o := .eq) (y_v g 1) y_str) (b_cons (s_ret (y_tup (a_cons y_str (a_cons (y_call g E.c_13_0 (a_cons (y_v g 0) (a_cons (y_v g 4) a_nil))) a_nil))))
  b_nil)
  b_nil)
 (b_cons (s_as (y_call g E.c_13_0 (a_cons (y_v g 0) (a_cons (y_v g 2) a_nil))) (g_nm g 5))
 (b_cons (s_if (t_cm g (o := .eq) (y_v g 1) y_str) (b_cons (s_ret (y_tup (a_cons y_str (a_cons (y_v g 5) (a_cons (y_call g E.c_13_0 (a_cons (y_v g 0) (a_cons (y_ix g (y_lst (a_cons y_int (a_cons (y_bin (o := .pow) y_int y_int) a_nil))) (y_call g E.c_13_0 (a_cons (y_v g 0) (a_cons y_int a_nil)))) a_nil))) a_nil)))))
  b_nil)
  b_nil)
 (b_cons (s_if (t_cm g (o := .eq) (y_v g 1) y_str) (b_cons (s_ret (y_tup (a_cons y_str (a_cons (y_v g 5) (a_cons (y_call g E.c_13_0 (a_cons (y_v g 0) (a_cons (y_v g 2) a_nil))) a_nil)))))
  b_nil)
  b_nil)
 (b_cons (s_if (t_cm g (o := .eq) (y_v g 1) y_str) (b_cons (s_ret (y_tup (a_cons y_str (a_cons (y_v g 5) (a_cons (y_ix g y_str (y_call g E.c_13_0 (a_cons (y_v g 0) (a_cons y_int a_nil)))) (a_cons (y_call g E.c_13_0 (a_cons (y_v g 0) (a_cons (y_v g 2) a_nil))) (a_cons (y_call g E.c_13_0 (a_cons (y_v g 0) (a_cons (y_v g 2) a_nil))) a_nil)))))))
  b_nil)
  b_nil)
 (b_cons (s_if (t_cm g (o := .eq) (y_v g 1) y_str) (b_cons (s_ret (y_tup (a_cons y_str (a_cons (y_v g 5) (a_cons (y_call g E.c_13_0 (a_cons (y_v g 0) (a_cons (y_v g 4) a_nil))) a_nil)))))
  b_nil)
  b_nil)
 (b_cons (s_if (t_cm g (o := .eq) (y_v g 1) y_str) (b_cons (s_as (y_call g E.c_13_0 (a_cons (y_v g 0) (a_cons (f_len g E.b_len (a_cons (y_v g 3) a_nil)) a_nil))) (g_nm g 6))
  (b_cons (s_ret (y_tup (a_cons y_str (a_cons (y_v g 5) (a_cons (y_v g 6) (a_cons (f_tuple g E.b_tuple (a_cons (y_lc g (own := [("_law_k", 7)]) { kind := .function, names := [(".0", .local), ("_law_k", .local), ("_law_next", .globalImplicit), ("_law_state_here", .cell), ("_law_v", .cell)], isGenerator := false, isCoroutine := false, more := [] } [true, false, true, false, false, false, false, true] [false, false, false, false, false, false, false, true] (by decide +kernel) (by decide +kernel) (by decide +kernel) (by decide +kernel) (by decide +kernel) (i_r1 g E.b_range (y_ix g (y_ix g (y_v g 3) (y_v g 6)) y_int))
 (fun Y e1 e2 e3 e4 e5 g1 => have E1 := E.to e1 e2 e3 e4 e5
  ⟨(g_nm g1 7), c_no, (y_call g1 E1.c_13_0 (a_cons (y_v g1 0) (a_cons (y_v g1 2) a_nil)))⟩)) a_nil)) a_nil))))))
  b_nil))
  b_nil)
 (b_cons (s_ret (y_tup (a_cons (y_v g 1) (a_cons (y_v g 5) a_nil))))
 b_nil))))))))
theorem ok15 {P : Program} {w : World} {K : PySem.W.Frag} {mg : Str → Option Value} {base : Heap} {ca : Nat → Addr} {f : Addr} {fd : FuncData} {n : Nat} (F : Fun K "_law_row" "_law_row" s15 f fd) (E : EnP P w K mg base ca n) : FnOk P w K mg base CX0 (2 * n + 2) f fd ["_law_state_here", "_law_kind_here", "_law_v", "_law_heads_here", "_law_many"] (spR ca (run G (n + 1)) 15 5) :=
  def_ok F sc_15 fs_15 G15 rfl rfl (by decide +kernel) (by decide +kernel) (by decide +kernel) fun X e1 e2 e3 e4 e5 g => body15 g (by rw [e1, e2, e3, e4, e5]; exact E)
def sc16 : Scope := { kind := .function, names := [("_law_script", .local), ("_law_functions", .local), ("_law_variables", .local), ("_law_state_here", .local), ("_law_heads_here", .local), ("_law_f", .local), ("_law_v", .local), ("_law_state", .globalImplicit), ("range", .globalImplicit), ("_law_next", .globalImplicit), ("max", .globalImplicit)], isGenerator := false, isCoroutine := false, more := [] }
theorem sc_16 : defScope s16 = sc16 := rfl
theorem fs_16 : FnScope ["_law_script", "_law_functions", "_law_variables", "_law_state_here", "_law_heads_here", "_law_f", "_law_v"] ["_law_script", "_law_functions", "_law_variables"] sc16 := ⟨rfl, rfl, rfl, by decide +kernel, rfl, by decide +kernel, by decide +kernel⟩
theorem body16 {X : Cx} {ca : Nat → Addr} {n : Nat} (g : Cg X ["_law_script", "_law_functions", "_law_variables", "_law_state_here", "_law_heads_here", "_law_f", "_law_v"] sc16 [true, true, true, true, true, true, true] [true, true, true, true, true, true, true] (2 * n + 1)) (E : EnP X.prog X.w X.K X.mg X.base ca n) : PSs X (defBody s16) (RBl ca (cn G n) b16) :=
 (b_cons (s_as (y_call g E.c_12_0 (a_cons (y_v g 0) (a_cons y_int a_nil))) (g_nm g 3))
 (b_cons (s_as (y_lst a_nil) (g_nm g 4))
 (b_cons (s_for g (i_r1 g E.b_range (y_bin (o := .add) y_int (y_call g E.c_13_0 (a_cons (y_v g 3) (a_cons (y_v g 1) a_nil))))) (g_nm g 5) (b_cons (s_as (y_call g E.c_13_0 (a_cons (y_v g 3) (a_cons (y_bin (o := .add) (y_v g 2) y_int) a_nil))) (g_nm g 6))
  (b_cons (s_if (t_w (w_and (t_not (t_e (y_ix g (y_v g 3) y_int))) (w_and1 (t_cm g (o := .gt) (y_call g E.c_13_0 (a_cons (y_v g 3) (a_cons y_int a_nil))) y_int)))) (b_cons (s_as (f_max2 g E.b_max (a_cons (y_v g 6) (a_cons y_int a_nil))) (g_nm g 6))
   b_nil)
   b_nil)
  (b_cons (s_ex (m_append g (y_v g 4) (a_cons (y_tup (a_cons (y_call g E.c_13_0 (a_cons (y_v g 3) (a_cons (y_bin (o := .add) (y_v g 6) y_int) a_nil))) (a_cons (y_v g 6) a_nil))) a_nil)))
  b_nil))))
 (b_cons (s_ret (y_v g 4))
 b_nil))))
theorem ok16 {P : Program} {w : World} {K : PySem.W.Frag} {mg : Str → Option Value} {base : Heap} {ca : Nat → Addr} {f : Addr} {fd : FuncData} {n : Nat} (F : Fun K "_law_heads" "_law_heads" s16 f fd) (E : EnP P w K mg base ca n) : FnOk P w K mg base CX0 (2 * n + 2) f fd ["_law_script", "_law_functions", "_law_variables"] (spR ca (run G (n + 1)) 16 3) :=
  def_ok F sc_16 fs_16 G16 rfl rfl (by decide +kernel) (by decide +kernel) (by decide +kernel) fun X e1 e2 e3 e4 e5 g => body16 g (by rw [e1, e2, e3, e4, e5]; exact E)
def sc17 : Scope := { kind := .function, names := [("_law_script", .local), ("_law_heads_here", .local), ("_law_cells", .local), ("_law_owners", .local), ("_law_edges", .local), ("_law_at", .local), ("_law_state_here", .local), ("_law_f", .cell), ("_law_kind_here", .local), ("len", .globalImplicit), ("_law_state", .globalImplicit), ("_law_next", .globalImplicit), ("_law_kind", .globalImplicit), ("int", .globalImplicit)], isGenerator := false, isCoroutine := false, more := [("fast", .str "_law_script"), ("fast", .str "_law_heads_here"), ("fast", .str "_law_cells"), ("fast", .str "_law_owners"), ("fast", .str "_law_edges"), ("fast", .str "_law_at"), ("fast", .str "_law_state_here"), ("fast", .str "_law_f"), ("fast", .str "_law_kind_here"), ("fast", .str "_law_one")] }
theorem sc_17 : defScope s17 = sc17 := rfl
theorem fs_17 : FnScope ["_law_script", "_law_heads_here", "_law_cells", "_law_owners", "_law_edges", "_law_at", "_law_state_here", "_law_f", "_law_kind_here", "_law_one"] ["_law_script", "_law_heads_here", "_law_cells"] sc17 := ⟨rfl, rfl, rfl, by decide +kernel, rfl, by decide +kernel, by decide +kernel⟩
theorem body17 {X : Cx} {ca : Nat → Addr} {n : Nat} (g : Cg X ["_law_script", "_law_heads_here", "_law_cells", "_law_owners", "_law_edges", "_law_at", "_law_state_here", "_law_f", "_law_kind_here", "_law_one"] sc17 [true, true, true, true, true, true, true, true, true, false] [true, true, true, true, true, true, true, true, true, false] (2 * n + 1)) (E : EnP X.prog X.w X.K X.mg X.base ca n) : PSs X (defBody s17) (RBl ca (cn G n) b17) :=
 (b_cons (s_as (y_lst a_nil) (g_nm g 3))
 (b_cons (s_as (f_len g E.b_len (a_cons (y_v g 1) a_nil)) (g_nm g 4))
 (b_cons (s_for g (i_lst (y_v g 2)) (g_nm g 5) (b_cons (s_as (y_call g E.c_12_0 (a_cons (y_v g 0) (a_cons (y_v g 5) a_nil))) (g_nm g 6))
  (b_cons (s_as (y_call g E.c_13_0 (a_cons (y_v g 6) (a_cons (f_len g E.b_len (a_cons (y_v g 1) a_nil)) a_nil))) (g_nm g 7))
  (b_cons (s_as (y_call g E.c_14_0 (a_cons (y_v g 6) (a_cons (y_ix g (y_ix g (y_v g 1) (y_v g 7)) y_int) a_nil))) (g_nm g 8))
  (b_cons (s_as (y_bin (o := .add) (y_bin (o := .add) (y_v g 4) y_int) (f_int g E.b_int (a_cons (y_cm g (o := .eq) (y_v g 8) y_str) a_nil))) (g_nm g 4))
  (b_cons (s_if (t_w (w_and (t_cm g (o := .le) (y_v g 4) y_int) (w_and1 (t_cm g (o := .lt) (f_len g E.b_len (a_cons (y_lc g (own := [("_law_one", 9)]) { kind := .function, names := [(".0", .local), ("_law_one", .local), ("_law_f", .cell)], isGenerator := false, isCoroutine := false, more := [] } [false, false, false, false, false, false, false, true, false, true] [false, false, false, false, false, false, false, false, false, true] (by decide +kernel) (by decide +kernel) (by decide +kernel) (by decide +kernel) (by decide +kernel) (i_lst (y_v g 3))
 (fun Y e1 e2 e3 e4 e5 g1 => have E1 := E.to e1 e2 e3 e4 e5
  ⟨(g_nm g1 9), (c_if (t_cm g1 (o := .eq) (y_ix g1 (y_v g1 9) y_int) (y_v g1 7))), (y_v g1 9)⟩)) a_nil)) y_int)))) (b_cons (s_ex (m_append g (y_v g 3) (a_cons (y_tup (a_cons (y_v g 7) (a_cons (y_v g 8) (a_cons (y_v g 6) a_nil)))) a_nil)))
   b_nil)
   (b_cons (s_as (y_bin (o := .sub) (y_bin (o := .sub) (y_v g 4) y_int) (f_int g E.b_int (a_cons (y_cm g (o := .eq) (y_v g 8) y_str) a_nil))) (g_nm g 4))
   b_nil))
  b_nil))))))
 (b_cons (s_ret (y_v g 3))
 b_nil))))
theorem ok17 {P : Program} {w : World} {K : PySem.W.Frag} {mg : Str → Option Value} {base : Heap} {ca : Nat → Addr} {f : Addr} {fd : FuncData} {n : Nat} (F : Fun K "_law_places" "_law_places" s17 f fd) (E : EnP P w K mg base ca n) : FnOk P w K mg base CX0 (2 * n + 2) f fd ["_law_script", "_law_heads_here", "_law_cells"] (spR ca (run G (n + 1)) 17 3) :=
  def_ok F sc_17 fs_17 G17 rfl rfl (by decide +kernel) (by decide +kernel) (by decide +kernel) fun X e1 e2 e3 e4 e5 g => body17 g (by rw [e1, e2, e3, e4, e5]; exact E)
def sc18 : Scope := { kind := .function, names := [("_law_script", .local), ("_law_functions", .local), ("_law_variables", .local), ("_law_cells", .local), ("_law_heads_here", .cell), ("_law_owners", .local), ("_law_ends", .local), ("_law_program_here", .local), ("_law_f", .cell), ("_law_given", .local), ("_law_v", .cell), ("_law_mine", .cell), ("_law_rows", .local), ("_law_last", .local), ("_law_names", .local), ("_law_heads", .globalImplicit), ("_law_places", .globalImplicit), ("_law_state", .globalImplicit), ("range", .globalImplicit), ("len", .globalImplicit), ("_law_next", .globalImplicit), ("tuple", .globalImplicit)], isGenerator := false, isCoroutine := false, more := [("fast", .str "_law_script"), ("fast", .str "_law_functions"), ("fast", .str "_law_variables"), ("fast", .str "_law_cells"), ("fast", .str "_law_heads_here"), ("fast", .str "_law_owners"), ("fast", .str "_law_ends"), ("fast", .str "_law_program_here"), ("fast", .str "_law_f"), ("fast", .str "_law_given"), ("fast", .str "_law_v"), ("fast", .str "_law_one"), ("fast", .str "_law_mine"), ("fast", .str "_law_rows"), ("fast", .str "_law_last"), ("fast", .str "_law_k"), ("fast", .str "_law_names")] }
theorem sc_18 : defScope s18 = sc18 := rfl
theorem fs_18 : FnScope ["_law_script", "_law_functions", "_law_variables", "_law_cells", "_law_heads_here", "_law_owners", "_law_ends", "_law_program_here", "_law_f", "_law_given", "_law_v", "_law_mine", "_law_rows", "_law_last", "_law_names", "_law_one", "_law_k"] ["_law_script", "_law_functions", "_law_variables", "_law_cells"] sc18 := ⟨rfl, rfl, rfl, by decide +kernel, rfl, by decide +kernel, by decide +kernel⟩
theorem body18 {X : Cx} {ca : Nat → Addr} {n : Nat} (g : Cg X ["_law_script", "_law_functions", "_law_variables", "_law_cells", "_law_heads_here", "_law_owners", "_law_ends", "_law_program_here", "_law_f", "_law_given", "_law_v", "_law_mine", "_law_rows", "_law_last", "_law_names", "_law_one", "_law_k"] sc18 [true, true, true, true, true, true, true, true, true, true, true, true, true, true, true, false, false] [true, true, true, true, true, true, true, true, true, true, true, true, true, true, true, false, false] (2 * n + 1)) (E : EnP X.prog X.w X.K X.mg X.base ca n) : PSs X (defBody s18) (RBl ca (cn G n) b18) :=
 (b_cons (s_as (y_call g E.c_16_0 (a_cons (y_v g 0) (a_cons (y_v g 1) (a_cons (y_v g 2) a_nil)))) (g_nm g 4))
 (b_cons (s_as (y_call g E.c_17_0 (a_cons (y_v g 0) (a_cons (y_v g 4) (a_cons (y_v g 3) a_nil)))) (g_nm g 5))
 (b_cons (s_as (y_call g E.c_12_0 (a_cons (y_v g 0) (a_cons y_int a_nil))) (g_nm g 6))
 (b_cons (s_as (y_lst a_nil) (g_nm g 7))
 (b_cons (s_for g (i_r1 g E.b_range (f_len g E.b_len (a_cons (y_v g 4) a_nil))) (g_nm g 8) (b_cons (s_as (y_ix g (y_v g 4) (y_v g 8)) (g_tp g (g_cons (g_nm g 9) (g_cons (g_nm g 10) g_nil))))
  (b_cons (s_asC g (y_lc g (own := [("_law_one", 15)]) { kind := .function, names := [(".0", .local), ("_law_one", .local), ("_law_f", .cell)], isGenerator := false, isCoroutine := false, more := [] } [false, false, false, false, false, false, false, false, true, false, false, false, false, false, false, true, false] [false, false, false, false, false, false, false, false, false, false, false, false, false, false, false, true, false] (by decide +kernel) (by decide +kernel) (by decide +kernel) (by decide +kernel) (by decide +kernel) (i_lst (y_v g 5))
 (fun Y e1 e2 e3 e4 e5 g1 => have E1 := E.to e1 e2 e3 e4 e5
  ⟨(g_nm g1 15), (c_if (t_cm g1 (o := .eq) (y_ix g1 (y_v g1 15) y_int) (y_v g1 8))), (y_v g1 15)⟩)) (g_nm g 11))
  (b_cons (s_lcA g 12 (own := [("_law_one", 15)]) { kind := .function, names := [(".0", .local), ("_law_one", .local), ("_law_row", .globalImplicit), ("len", .globalImplicit), ("_law_heads_here", .cell), ("_law_mine", .cell), ("_law_v", .cell)], isGenerator := false, isCoroutine := false, more := [] } [false, false, false, false, true, false, false, false, false, false, true, true, false, false, false, true, false] [false, false, false, false, false, false, false, false, false, false, false, false, false, false, false, true, false] (by decide +kernel) (by decide +kernel) (by decide +kernel) (by decide +kernel) (by decide +kernel) (i_lst (y_v g 11))
 (fun Y e1 e2 e3 e4 e5 g2 => have E2 := E.to e1 e2 e3 e4 e5
  ⟨(g_nm g2 15), c_no, (y_call g2 E2.c_15_0 (a_cons (y_ix g2 (y_v g2 15) y_int) (a_cons (y_ix g2 (y_v g2 15) y_int) (a_cons (y_v g2 10) (a_cons (y_v g2 4) (a_cons (y_bin (o := .add) (f_len g2 E2.b_len (a_cons (y_v g2 11) a_nil)) y_int) a_nil))))))⟩))
  (b_cons (s_as (y_tup (a_cons y_str (a_cons (y_call g E.c_13_0 (a_cons (y_v g 6) (a_cons (y_bin (o := .add) (f_len g E.b_len (a_cons (y_v g 11) a_nil)) y_int) a_nil))) a_nil))) (g_nm g 13))
  (b_cons (s_if (t_w (w_and (t_cm g (o := .gt) (y_v g 10) y_int) (w_and1 (t_cm g (o := .gt) (y_call g E.c_13_0 (a_cons (y_v g 6) (a_cons y_int a_nil))) y_int)))) (b_cons (s_as (y_tup (a_cons y_str (a_cons (y_call g E.c_13_0 (a_cons (y_v g 6) (a_cons (y_v g 10) a_nil))) a_nil))) (g_nm g 13))
   b_nil)
   b_nil)
  (b_cons (s_as (f_tuple g E.b_tuple (a_cons (y_lc g (own := [("_law_k", 16)]) { kind := .function, names := [(".0", .local), ("_law_k", .local), ("_law_f", .cell)], isGenerator := false, isCoroutine := false, more := [] } [false, false, false, false, false, false, false, false, true, false, false, false, false, false, false, false, true] [false, false, false, false, false, false, false, false, false, false, false, false, false, false, false, false, true] (by decide +kernel) (by decide +kernel) (by decide +kernel) (by decide +kernel) (by decide +kernel) (i_r1 g E.b_range (y_v g 10))
 (fun Y e1 e2 e3 e4 e5 g3 => have E3 := E.to e1 e2 e3 e4 e5
  ⟨(g_nm g3 16), c_no, (y_bin (o := .mul) (y_ix g3 y_str (y_v g3 16)) (y_bin (o := .add) y_int (y_v g3 8)))⟩)) a_nil)) (g_nm g 14))
  (b_cons (s_ex (m_append g (y_v g 7) (a_cons (y_tup (a_cons (y_bin (o := .add) y_str (y_bin (o := .mul) y_str (y_v g 8))) (a_cons (y_v g 9) (a_cons (y_v g 14) (a_cons (f_tuple g E.b_tuple (a_cons (y_bin (o := .add) (y_v g 12) (y_lst (a_cons (y_v g 13) a_nil))) a_nil)) a_nil))))) a_nil)))
  b_nil))))))))
 (b_cons (s_ret (y_v g 7))
 b_nil))))))
theorem ok18 {P : Program} {w : World} {K : PySem.W.Frag} {mg : Str → Option Value} {base : Heap} {ca : Nat → Addr} {f : Addr} {fd : FuncData} {n : Nat} (F : Fun K "_law_program" "_law_program" s18 f fd) (E : EnP P w K mg base ca n) : FnOk P w K mg base CX0 (2 * n + 2) f fd ["_law_script", "_law_functions", "_law_variables", "_law_cells"] (spR ca (run G (n + 1)) 18 4) :=
  def_ok F sc_18 fs_18 G18 rfl rfl (by decide +kernel) (by decide +kernel) (by decide +kernel) fun X e1 e2 e3 e4 e5 g => body18 g (by rw [e1, e2, e3, e4, e5]; exact E)
def sc19 : Scope := { kind := .function, names := [("_law_script", .local), ("_law_given", .local), ("_law_state_here", .local), ("_law_some", .local), ("_law_k", .local), ("_law_state", .globalImplicit), ("range", .globalImplicit), ("_law_next", .globalImplicit)], isGenerator := false, isCoroutine := false, more := [] }
theorem sc_19 : defScope s19 = sc19 := rfl
theorem fs_19 : FnScope ["_law_script", "_law_given", "_law_state_here", "_law_some", "_law_k"] ["_law_script", "_law_given"] sc19 := ⟨rfl, rfl, rfl, by decide +kernel, rfl, by decide +kernel, by decide +kernel⟩
theorem body19 {X : Cx} {ca : Nat → Addr} {n : Nat} (g : Cg X ["_law_script", "_law_given", "_law_state_here", "_law_some", "_law_k"] sc19 [true, true, true, true, true] [true, true, true, true, true] (2 * n + 1)) (E : EnP X.prog X.w X.K X.mg X.base ca n) : PSs X (defBody s19) (RBl ca (cn G n) b19) :=
 (b_cons (s_as (y_call g E.c_12_0 (a_cons (y_v g 0) (a_cons y_int a_nil))) (g_nm g 2))
 (b_cons (s_as (y_lst a_nil) (g_nm g 3))
 (b_cons (s_for g (i_r1 g E.b_range (y_v g 1)) (g_nm g 4) (b_cons (s_ex (m_append g (y_v g 3) (a_cons (y_call g E.c_13_0 (a_cons (y_v g 2) (a_cons (y_ix g (y_lst (a_cons y_int (a_cons (y_bin (o := .pow) y_int y_int) a_nil))) (y_call g E.c_13_0 (a_cons (y_v g 2) (a_cons y_int a_nil)))) a_nil))) a_nil)))
  b_nil))
 (b_cons (s_ret (y_tup (a_cons (y_frz (y_v g 3)) (a_cons (y_v g 2) a_nil))))
 b_nil))))
theorem ok19 {P : Program} {w : World} {K : PySem.W.Frag} {mg : Str → Option Value} {base : Heap} {ca : Nat → Addr} {f : Addr} {fd : FuncData} {n : Nat} (F : Fun K "_law_values" "_law_values" s19 f fd) (E : EnP P w K mg base ca n) : FnOk P w K mg base CX0 (2 * n + 2) f fd ["_law_script", "_law_given"] (spR ca (run G (n + 1)) 19 2) :=
  def_ok F sc_19 fs_19 G19 rfl rfl (by decide +kernel) (by decide +kernel) (by decide +kernel) fun X e1 e2 e3 e4 e5 g => body19 g (by rw [e1, e2, e3, e4, e5]; exact E)
def sc20 : Scope := { kind := .function, names := [("_law_told", .local), ("_law_few", .cell), ("_law_states", .local), ("_law_end", .local)], isGenerator := false, isCoroutine := false, more := [("fast", .str "_law_told"), ("fast", .str "_law_few"), ("fast", .str "_law_states"), ("fast", .str "_law_end"), ("fast", .str "_law_one")] }
theorem sc_20 : defScope s20 = sc20 := rfl
theorem fs_20 : FnScope ["_law_told", "_law_few", "_law_states", "_law_end", "_law_one"] ["_law_told", "_law_few"] sc20 := ⟨rfl, rfl, rfl, by decide +kernel, rfl, by decide +kernel, by decide +kernel⟩
theorem body20 {X : Cx} {ca : Nat → Addr} {n : Nat} (g : Cg X ["_law_told", "_law_few", "_law_states", "_law_end", "_law_one"] sc20 [true, true, true, true, false] [true, true, true, true, false] (2 * n + 1)) (E : EnP X.prog X.w X.K X.mg X.base ca n) : PSs X (defBody s20) (RBl ca (cn G n) b20) :=
 (b_cons (s_as (y_v g 0) (g_tp g (g_cons (g_nm g 2) (g_cons (g_nm g 3) g_nil))))
 (b_cons (s_if (t_w (w_and (t_cm g (o := .eq) (y_ix g (y_v g 3) y_int) y_str) (w_and1 (t_cm g (o := .le) (y_ix g (y_ix g (y_v g 2) (y_neg y_int)) y_int) (y_v g 1))))) (b_cons (s_ret (y_v g 0))
  b_nil)
  b_nil)
 (b_cons (s_ret (y_tup (a_cons (y_lc g (own := [("_law_one", 4)]) { kind := .function, names := [(".0", .local), ("_law_one", .local), ("_law_few", .cell)], isGenerator := false, isCoroutine := false, more := [] } [false, true, false, false, true] [false, false, false, false, true] (by decide +kernel) (by decide +kernel) (by decide +kernel) (by decide +kernel) (by decide +kernel) (i_lst (y_v g 2))
 (fun Y e1 e2 e3 e4 e5 g1 => have E1 := E.to e1 e2 e3 e4 e5
  ⟨(g_nm g1 4), (c_if (t_cm g1 (o := .le) (y_ix g1 (y_v g1 4) y_int) (y_v g1 1))), (y_v g1 4)⟩)) (a_cons (y_tup (a_cons y_str a_nil)) a_nil))))
 b_nil)))
theorem ok20 {P : Program} {w : World} {K : PySem.W.Frag} {mg : Str → Option Value} {base : Heap} {ca : Nat → Addr} {f : Addr} {fd : FuncData} {n : Nat} (F : Fun K "_law_cut" "_law_cut" s20 f fd) (E : EnP P w K mg base ca n) : FnOk P w K mg base CX0 (2 * n + 2) f fd ["_law_told", "_law_few"] (spR ca (run G (n + 1)) 20 2) :=
  def_ok F sc_20 fs_20 G20 rfl rfl (by decide +kernel) (by decide +kernel) (by decide +kernel) fun X e1 e2 e3 e4 e5 g => body20 g (by rw [e1, e2, e3, e4, e5]; exact E)
def sc21 : Scope := { kind := .function, names := [("_law_script", .local), ("_law_program_here", .local), ("_law_values_here", .local), ("_law_state_here", .local), ("_law_one", .local), ("_law_other", .local), ("_law_bound", .local), ("_law_few", .local), ("_law_first", .local), ("_law_second", .local), ("_law_third", .local), ("_law_none", .local), ("_law_k", .local), ("_law_found", .local), ("_law_told", .local), ("_law_dyed", .local), ("_law_program", .globalImplicit), ("list", .globalImplicit), ("range", .globalImplicit), ("min", .globalImplicit), ("len", .globalImplicit), ("_law_values", .globalImplicit), ("_law_next", .globalImplicit), ("int", .globalImplicit), ("run", .globalImplicit), ("_law_cut", .globalImplicit)], isGenerator := false, isCoroutine := false, more := [] }
theorem sc_21 : defScope s21 = sc21 := rfl
theorem fs_21 : FnScope ["_law_script", "_law_program_here", "_law_values_here", "_law_state_here", "_law_one", "_law_other", "_law_bound", "_law_few", "_law_first", "_law_second", "_law_third", "_law_none", "_law_k", "_law_found", "_law_told", "_law_dyed"] ["_law_script"] sc21 := ⟨rfl, rfl, rfl, by decide +kernel, rfl, by decide +kernel, by decide +kernel⟩
theorem body21 {X : Cx} {ca : Nat → Addr} {n : Nat} (g : Cg X ["_law_script", "_law_program_here", "_law_values_here", "_law_state_here", "_law_one", "_law_other", "_law_bound", "_law_few", "_law_first", "_law_second", "_law_third", "_law_none", "_law_k", "_law_found", "_law_told", "_law_dyed"] sc21 [true, true, true, true, true, true, true, true, true, true, true, true, true, true, true, true] [true, true, true, true, true, true, true, true, true, true, true, true, true, true, true, true] (2 * n + 1)) (E : EnP X.prog X.w X.K X.mg X.base ca n) : PSs X (defBody s21) (RBl ca (cn G n) b21) :=
 (b_cons (s_as (y_call g E.c_18_0 (a_cons (y_v g 0) (a_cons y_int (a_cons y_int (a_cons (y_lrng g E.b_list E.b_range y_int (f_min2 g E.b_min (a_cons (f_len g E.b_len (a_cons (y_v g 0) a_nil)) (a_cons y_int a_nil)))) a_nil))))) (g_nm g 1))
 (b_cons (s_as (y_call g E.c_19_0 (a_cons (y_v g 0) (a_cons (y_ix g (y_ix g (y_v g 1) y_int) y_int) a_nil))) (g_tp g (g_cons (g_nm g 2) (g_cons (g_nm g 3) g_nil))))
 (b_cons (s_as (y_call g E.c_13_0 (a_cons (y_v g 3) (a_cons y_int a_nil))) (g_nm g 4))
 (b_cons (s_as (y_call g E.c_13_0 (a_cons (y_v g 3) (a_cons y_int a_nil))) (g_nm g 5))
 (b_cons (s_as (y_call g E.c_13_0 (a_cons (y_v g 3) (a_cons (y_ix g (y_lst (a_cons y_int (a_cons y_int a_nil))) (f_int g E.b_int (a_cons (y_cm g (o := .eq) (y_call g E.c_13_0 (a_cons (y_v g 3) (a_cons y_int a_nil))) y_int) a_nil))) a_nil))) (g_nm g 6))
 (b_cons (s_as (y_call g E.c_13_0 (a_cons (y_v g 3) (a_cons (y_bin (o := .add) (y_v g 6) y_int) a_nil))) (g_nm g 7))
 (b_cons (s_as (y_call g E.c_10_0 (a_cons (y_v g 1) (a_cons (y_v g 2) (a_cons (y_v g 4) (a_cons (y_v g 6) a_nil))))) (g_nm g 8))
 (b_cons (s_as (y_call g E.c_10_0 (a_cons (y_v g 1) (a_cons (y_v g 2) (a_cons (y_v g 5) (a_cons (y_v g 6) a_nil))))) (g_nm g 9))
 (b_cons (s_as (y_call g E.c_10_0 (a_cons (y_v g 1) (a_cons (y_v g 2) (a_cons (y_bin (o := .bor) (y_v g 4) (y_v g 5)) (a_cons (y_v g 6) a_nil))))) (g_nm g 10))
 (b_cons (s_as (y_call g E.c_10_0 (a_cons (y_v g 1) (a_cons (y_v g 2) (a_cons y_int (a_cons (y_v g 6) a_nil))))) (g_nm g 11))
 (b_cons (s_if (t_w (w_or (t_cm g (o := .ne) (y_ix g (y_v g 8) y_int) (y_ix g (y_v g 10) y_int)) (w_or (t_cm g (o := .ne) (y_ix g (y_v g 9) y_int) (y_ix g (y_v g 10) y_int)) (w_or1 (t_cm g (o := .ne) (y_ix g (y_v g 11) y_int) (y_ix g (y_v g 10) y_int)))))) (b_cons (s_ret y_bl)
  b_nil)
  b_nil)
 (b_cons (s_if (t_w (w_or (t_cm g (o := .ne) (f_len g E.b_len (a_cons (y_ix g (y_v g 8) y_int) a_nil)) (f_len g E.b_len (a_cons (y_ix g (y_v g 10) y_int) a_nil))) (w_or (t_cm g (o := .ne) (f_len g E.b_len (a_cons (y_ix g (y_v g 9) y_int) a_nil)) (f_len g E.b_len (a_cons (y_ix g (y_v g 10) y_int) a_nil))) (w_or1 (t_cm g (o := .ne) (f_len g E.b_len (a_cons (y_ix g (y_v g 11) y_int) a_nil)) (f_len g E.b_len (a_cons (y_ix g (y_v g 10) y_int) a_nil))))))) (b_cons (s_ret y_bl)
  b_nil)
  b_nil)
 (b_cons (s_for g (i_r1 g E.b_range (f_len g E.b_len (a_cons (y_ix g (y_v g 10) y_int) a_nil))) (g_nm g 12) (b_cons (s_for g (i_lst (y_lst (a_cons (y_ix g (y_ix g (y_v g 8) y_int) (y_v g 12)) (a_cons (y_ix g (y_ix g (y_v g 9) y_int) (y_v g 12)) (a_cons (y_ix g (y_ix g (y_v g 11) y_int) (y_v g 12)) a_nil))))) (g_nm g 13) (b_cons (s_if (t_w (w_or (t_cm g (o := .ne) (y_slc (y_v g 13) o_sk (o_e y_int)) (y_slc (y_ix g (y_ix g (y_v g 10) y_int) (y_v g 12)) o_sk (o_e y_int))) (w_or1 (t_cm g (o := .ne) (y_bin (o := .band) (y_ix g (y_ix g (y_ix g (y_v g 11) y_int) (y_v g 12)) y_int) (y_ix g (y_v g 13) y_int)) (y_ix g (y_ix g (y_ix g (y_v g 11) y_int) (y_v g 12)) y_int))))) (b_cons (s_ret y_bl)
    b_nil)
    b_nil)
   b_nil))
  (b_cons (s_if (t_cm g (o := .ne) (y_bin (o := .bor) (y_ix g (y_ix g (y_ix g (y_v g 8) y_int) (y_v g 12)) y_int) (y_ix g (y_ix g (y_ix g (y_v g 9) y_int) (y_v g 12)) y_int)) (y_ix g (y_ix g (y_ix g (y_v g 10) y_int) (y_v g 12)) y_int)) (b_cons (s_ret y_bl)
   b_nil)
   b_nil)
  b_nil)))
 (b_cons (s_for g (i_lst (y_lst (a_cons (y_tup (a_cons (y_v g 8) (a_cons (y_v g 4) a_nil))) (a_cons (y_tup (a_cons (y_v g 10) (a_cons (y_bin (o := .bor) (y_v g 4) (y_v g 5)) a_nil))) a_nil)))) (g_tp g (g_cons (g_nm g 14) (g_cons (g_nm g 15) g_nil))) (b_cons (s_if (t_cm g (o := .ne) (y_call g E.c_10_0 (a_cons (y_v g 1) (a_cons (y_v g 2) (a_cons (y_v g 15) (a_cons (y_v g 7) a_nil))))) (y_call g E.c_20_0 (a_cons (y_v g 14) (a_cons (y_v g 7) a_nil)))) (b_cons (s_ret y_bl)
   b_nil)
   b_nil)
  b_nil))
 (b_cons (s_ret y_bl)
 b_nil)))))))))))))))
theorem ok21 {P : Program} {w : World} {K : PySem.W.Frag} {mg : Str → Option Value} {base : Heap} {ca : Nat → Addr} {f : Addr} {fd : FuncData} {n : Nat} (F : Fun K "law" "law" s21 f fd) (E : EnP P w K mg base ca n) : FnOk P w K mg base CX0 (2 * n + 2) f fd ["_law_script"] (spR ca (run G (n + 1)) 21 1) :=
  def_ok F sc_21 fs_21 G21 rfl rfl (by decide +kernel) (by decide +kernel) (by decide +kernel) fun X e1 e2 e3 e4 e5 g => body21 g (by rw [e1, e2, e3, e4, e5]; exact E)
end Lk73

set_option Elab.async false
set_option linter.all false
set_option maxRecDepth 100000
set_option maxHeartbeats 4000000
namespace Lk73
open PySem PySem.Spec PyProof.Rows L2 Y
theorem all_mk {l : PySem.W.OpenLaw} {w : World} {K : PySem.W.Frag} {h : Heap} {mg : Str → Option Value} {fa f21 f1 f2 f3 f4 f5 f6 f7 f8 f9 f10 f11 f12 f13 f14 f15 f16 f17 f18 f19 f20 C0 : Addr} (X : K.In h) (G' : h.Ns mainGlobals mg) (hfa : mg "law" = some (.ref fa))
    {od1 an1 : Option Addr} {sl1 : Array (Option Value)} {oc1 kV1 dc1 pm1 cd1 ct1 : Value} {od2 an2 : Option Addr} {sl2 : Array (Option Value)} {oc2 kV2 dc2 pm2 cd2 ct2 : Value} {od3 an3 : Option Addr} {sl3 : Array (Option Value)} {oc3 kV3 dc3 pm3 cd3 ct3 : Value} {od4 an4 : Option Addr} {sl4 : Array (Option Value)} {oc4 kV4 dc4 pm4 cd4 ct4 : Value} {od5 an5 : Option Addr} {sl5 : Array (Option Value)} {oc5 kV5 dc5 pm5 cd5 ct5 : Value} {od6 an6 : Option Addr} {sl6 : Array (Option Value)} {oc6 kV6 dc6 pm6 cd6 ct6 : Value} {od7 an7 : Option Addr} {sl7 : Array (Option Value)} {oc7 kV7 dc7 pm7 cd7 ct7 : Value} {od8 an8 : Option Addr} {sl8 : Array (Option Value)} {oc8 kV8 dc8 pm8 cd8 ct8 : Value} {od9 an9 : Option Addr} {sl9 : Array (Option Value)} {oc9 kV9 dc9 pm9 cd9 ct9 : Value} {od10 an10 : Option Addr} {sl10 : Array (Option Value)} {oc10 kV10 dc10 pm10 cd10 ct10 : Value} {T10 : Addr} {oT10 : Option Addr} {dT10 : Data} {sT10 : Array (Option Value)} {od11 an11 : Option Addr} {sl11 : Array (Option Value)} {oc11 kV11 dc11 pm11 cd11 ct11 : Value} {od12 an12 : Option Addr} {sl12 : Array (Option Value)} {oc12 kV12 dc12 pm12 cd12 ct12 : Value} {od13 an13 : Option Addr} {sl13 : Array (Option Value)} {oc13 kV13 dc13 pm13 cd13 ct13 : Value} {od14 an14 : Option Addr} {sl14 : Array (Option Value)} {oc14 kV14 dc14 pm14 cd14 ct14 : Value} {od15 an15 : Option Addr} {sl15 : Array (Option Value)} {oc15 kV15 dc15 pm15 cd15 ct15 : Value} {od16 an16 : Option Addr} {sl16 : Array (Option Value)} {oc16 kV16 dc16 pm16 cd16 ct16 : Value} {od17 an17 : Option Addr} {sl17 : Array (Option Value)} {oc17 kV17 dc17 pm17 cd17 ct17 : Value} {od18 an18 : Option Addr} {sl18 : Array (Option Value)} {oc18 kV18 dc18 pm18 cd18 ct18 : Value} {od19 an19 : Option Addr} {sl19 : Array (Option Value)} {oc19 kV19 dc19 pm19 cd19 ct19 : Value} {od20 an20 : Option Addr} {sl20 : Array (Option Value)} {oc20 kV20 dc20 pm20 cd20 ct20 : Value} {od21 an21 : Option Addr} {sl21 : Array (Option Value)} {oc21 kV21 dc21 pm21 cd21 ct21 : Value} {tk0 : Tok}
    (a1 : PySem.W.findIn K (.ref C0) "__init__" = some (some (.ref f1)))
    (i1 : PySem.W.isFn K (.ref f1) = true)
    (l1 : K.lookup f1 = some ⟨oc1, od1, .func (PySem.W.fnOf "__init__" "Frame.__init__" (defArgs s1) (defBody s1) (defScope s1) .none kV1 dc1 pm1 an1 cd1 ct1), sl1⟩)
    (c1 : PySem.W.codeIn K cd1 "Frame.__init__" = true)
    (k1 : PySem.W.keepIn K (.ref f1) = true)
    (a2 : PySem.W.findIn K (.ref C0) "put" = some (some (.ref f2)))
    (i2 : PySem.W.isFn K (.ref f2) = true)
    (l2 : K.lookup f2 = some ⟨oc2, od2, .func (PySem.W.fnOf "put" "Frame.put" (defArgs s2) (defBody s2) (defScope s2) .none kV2 dc2 pm2 an2 cd2 ct2), sl2⟩)
    (c2 : PySem.W.codeIn K cd2 "Frame.put" = true)
    (k2 : PySem.W.keepIn K (.ref f2) = true)
    (a3 : PySem.W.findIn K (.ref C0) "is_dyed" = some (some (.ref f3)))
    (i3 : PySem.W.isFn K (.ref f3) = true)
    (l3 : K.lookup f3 = some ⟨oc3, od3, .func (PySem.W.fnOf "is_dyed" "Frame.is_dyed" (defArgs s3) (defBody s3) (defScope s3) .none kV3 dc3 pm3 an3 cd3 ct3), sl3⟩)
    (c3 : PySem.W.codeIn K cd3 "Frame.is_dyed" = true)
    (k3 : PySem.W.keepIn K (.ref f3) = true)
    (a4 : PySem.W.nsIn K mainGlobals "new_frame" = some (some (.ref f4)))
    (l4 : K.lookup f4 = some ⟨oc4, od4, .func (PySem.W.fnOf "new_frame" "new_frame" (defArgs s4) (defBody s4) (defScope s4) .none kV4 dc4 pm4 an4 cd4 ct4), sl4⟩)
    (c4 : PySem.W.codeIn K cd4 "new_frame" = true)
    (k4 : PySem.W.keepIn K (.ref f4) = true)
    (a5 : PySem.W.nsIn K mainGlobals "worked_out" = some (some (.ref f5)))
    (l5 : K.lookup f5 = some ⟨oc5, od5, .func (PySem.W.fnOf "worked_out" "worked_out" (defArgs s5) (defBody s5) (defScope s5) .none kV5 dc5 pm5 an5 cd5 ct5), sl5⟩)
    (c5 : PySem.W.codeIn K cd5 "worked_out" = true)
    (k5 : PySem.W.keepIn K (.ref f5) = true)
    (a6 : PySem.W.nsIn K mainGlobals "do_row" = some (some (.ref f6)))
    (l6 : K.lookup f6 = some ⟨oc6, od6, .func (PySem.W.fnOf "do_row" "do_row" (defArgs s6) (defBody s6) (defScope s6) .none kV6 dc6 pm6 an6 cd6 ct6), sl6⟩)
    (c6 : PySem.W.codeIn K cd6 "do_row" = true)
    (k6 : PySem.W.keepIn K (.ref f6) = true)
    (a7 : PySem.W.nsIn K mainGlobals "called" = some (some (.ref f7)))
    (l7 : K.lookup f7 = some ⟨oc7, od7, .func (PySem.W.fnOf "called" "called" (defArgs s7) (defBody s7) (defScope s7) .none kV7 dc7 pm7 an7 cd7 ct7), sl7⟩)
    (c7 : PySem.W.codeIn K cd7 "called" = true)
    (k7 : PySem.W.keepIn K (.ref f7) = true)
    (a8 : PySem.W.nsIn K mainGlobals "state_of" = some (some (.ref f8)))
    (l8 : K.lookup f8 = some ⟨oc8, od8, .func (PySem.W.fnOf "state_of" "state_of" (defArgs s8) (defBody s8) (defScope s8) .none kV8 dc8 pm8 an8 cd8 ct8), sl8⟩)
    (c8 : PySem.W.codeIn K cd8 "state_of" = true)
    (k8 : PySem.W.keepIn K (.ref f8) = true)
    (a9 : PySem.W.nsIn K mainGlobals "given_back" = some (some (.ref f9)))
    (l9 : K.lookup f9 = some ⟨oc9, od9, .func (PySem.W.fnOf "given_back" "given_back" (defArgs s9) (defBody s9) (defScope s9) .none kV9 dc9 pm9 an9 cd9 ct9), sl9⟩)
    (c9 : PySem.W.codeIn K cd9 "given_back" = true)
    (k9 : PySem.W.keepIn K (.ref f9) = true)
    (a10 : PySem.W.nsIn K mainGlobals "run" = some (some (.ref f10)))
    (l10 : K.lookup f10 = some ⟨oc10, od10, .func (PySem.W.fnOf "run" "run" (defArgs s10) (defBody s10) (defScope s10) (.ref T10) kV10 dc10 pm10 an10 cd10 ct10), sl10⟩)
    (dl10 : K.lookup T10 = some ⟨.type "tuple", oT10, dT10, sT10⟩)
    (tv_d10 : ∃ (its : Array Value) (n : Nat), dT10 = .seq its n ∧ Vals [V.int 0, V.int 400] its.toList)
    (c10 : PySem.W.codeIn K cd10 "run" = true)
    (k10 : PySem.W.keepIn K (.ref f10) = true)
    (a11 : PySem.W.nsIn K mainGlobals "_law_cell" = some (some (.ref f11)))
    (l11 : K.lookup f11 = some ⟨oc11, od11, .func (PySem.W.fnOf "_law_cell" "_law_cell" (defArgs s11) (defBody s11) (defScope s11) .none kV11 dc11 pm11 an11 cd11 ct11), sl11⟩)
    (c11 : PySem.W.codeIn K cd11 "_law_cell" = true)
    (k11 : PySem.W.keepIn K (.ref f11) = true)
    (a12 : PySem.W.nsIn K mainGlobals "_law_state" = some (some (.ref f12)))
    (l12 : K.lookup f12 = some ⟨oc12, od12, .func (PySem.W.fnOf "_law_state" "_law_state" (defArgs s12) (defBody s12) (defScope s12) .none kV12 dc12 pm12 an12 cd12 ct12), sl12⟩)
    (c12 : PySem.W.codeIn K cd12 "_law_state" = true)
    (k12 : PySem.W.keepIn K (.ref f12) = true)
    (a13 : PySem.W.nsIn K mainGlobals "_law_next" = some (some (.ref f13)))
    (l13 : K.lookup f13 = some ⟨oc13, od13, .func (PySem.W.fnOf "_law_next" "_law_next" (defArgs s13) (defBody s13) (defScope s13) .none kV13 dc13 pm13 an13 cd13 ct13), sl13⟩)
    (c13 : PySem.W.codeIn K cd13 "_law_next" = true)
    (k13 : PySem.W.keepIn K (.ref f13) = true)
    (a14 : PySem.W.nsIn K mainGlobals "_law_kind" = some (some (.ref f14)))
    (l14 : K.lookup f14 = some ⟨oc14, od14, .func (PySem.W.fnOf "_law_kind" "_law_kind" (defArgs s14) (defBody s14) (defScope s14) .none kV14 dc14 pm14 an14 cd14 ct14), sl14⟩)
    (c14 : PySem.W.codeIn K cd14 "_law_kind" = true)
    (k14 : PySem.W.keepIn K (.ref f14) = true)
    (a15 : PySem.W.nsIn K mainGlobals "_law_row" = some (some (.ref f15)))
    (l15 : K.lookup f15 = some ⟨oc15, od15, .func (PySem.W.fnOf "_law_row" "_law_row" (defArgs s15) (defBody s15) (defScope s15) .none kV15 dc15 pm15 an15 cd15 ct15), sl15⟩)
    (c15 : PySem.W.codeIn K cd15 "_law_row" = true)
    (k15 : PySem.W.keepIn K (.ref f15) = true)
    (a16 : PySem.W.nsIn K mainGlobals "_law_heads" = some (some (.ref f16)))
    (l16 : K.lookup f16 = some ⟨oc16, od16, .func (PySem.W.fnOf "_law_heads" "_law_heads" (defArgs s16) (defBody s16) (defScope s16) .none kV16 dc16 pm16 an16 cd16 ct16), sl16⟩)
    (c16 : PySem.W.codeIn K cd16 "_law_heads" = true)
    (k16 : PySem.W.keepIn K (.ref f16) = true)
    (a17 : PySem.W.nsIn K mainGlobals "_law_places" = some (some (.ref f17)))
    (l17 : K.lookup f17 = some ⟨oc17, od17, .func (PySem.W.fnOf "_law_places" "_law_places" (defArgs s17) (defBody s17) (defScope s17) .none kV17 dc17 pm17 an17 cd17 ct17), sl17⟩)
    (c17 : PySem.W.codeIn K cd17 "_law_places" = true)
    (k17 : PySem.W.keepIn K (.ref f17) = true)
    (a18 : PySem.W.nsIn K mainGlobals "_law_program" = some (some (.ref f18)))
    (l18 : K.lookup f18 = some ⟨oc18, od18, .func (PySem.W.fnOf "_law_program" "_law_program" (defArgs s18) (defBody s18) (defScope s18) .none kV18 dc18 pm18 an18 cd18 ct18), sl18⟩)
    (c18 : PySem.W.codeIn K cd18 "_law_program" = true)
    (k18 : PySem.W.keepIn K (.ref f18) = true)
    (a19 : PySem.W.nsIn K mainGlobals "_law_values" = some (some (.ref f19)))
    (l19 : K.lookup f19 = some ⟨oc19, od19, .func (PySem.W.fnOf "_law_values" "_law_values" (defArgs s19) (defBody s19) (defScope s19) .none kV19 dc19 pm19 an19 cd19 ct19), sl19⟩)
    (c19 : PySem.W.codeIn K cd19 "_law_values" = true)
    (k19 : PySem.W.keepIn K (.ref f19) = true)
    (a20 : PySem.W.nsIn K mainGlobals "_law_cut" = some (some (.ref f20)))
    (l20 : K.lookup f20 = some ⟨oc20, od20, .func (PySem.W.fnOf "_law_cut" "_law_cut" (defArgs s20) (defBody s20) (defScope s20) .none kV20 dc20 pm20 an20 cd20 ct20), sl20⟩)
    (c20 : PySem.W.codeIn K cd20 "_law_cut" = true)
    (k20 : PySem.W.keepIn K (.ref f20) = true)
    (a21 : PySem.W.nsIn K mainGlobals "law" = some (some (.ref f21)))
    (l21 : K.lookup f21 = some ⟨oc21, od21, .func (PySem.W.fnOf "law" "law" (defArgs s21) (defBody s21) (defScope s21) .none kV21 dc21 pm21 an21 cd21 ct21), sl21⟩)
    (c21 : PySem.W.codeIn K cd21 "law" = true)
    (k21 : PySem.W.keepIn K (.ref f21) = true)
    (aC0 : PySem.W.nsIn K mainGlobals "Frame" = some (some (.ref C0)))
    (pg0 : PySem.W.plainGet K C0 Str.empty = true)
    (hd0 : PySem.W.hasDictIn K C0 = true)
    (po0 : PySem.W.plainOver K C0 = true)
    (sa0 : PySem.W.findIn K (.ref C0) "__setattr__" = some (some (.builtin "object.__setattr__")))
    (mk0 : PySem.W.makesIn K C0 = true)
    (kc0 : PySem.W.keepIn K (.ref C0) = true)
    (nf_Frame_due : PySem.W.findIn K (.ref C0) "due" = some none)
    (nf_Frame_dyes : PySem.W.findIn K (.ref C0) "dyes" = some none)
    (nf_Frame_function : PySem.W.findIn K (.ref C0) "function" = some none)
    (nf_Frame_held : PySem.W.findIn K (.ref C0) "held" = some none)
    (z_abs : PySem.W.nsIn K mainGlobals "abs" = some none)
    (z_int : PySem.W.nsIn K mainGlobals "int" = some none)
    (z_len : PySem.W.nsIn K mainGlobals "len" = some none)
    (z_list : PySem.W.nsIn K mainGlobals "list" = some none)
    (z_max : PySem.W.nsIn K mainGlobals "max" = some none)
    (z_min : PySem.W.nsIn K mainGlobals "min" = some none)
    (z_range : PySem.W.nsIn K mainGlobals "range" = some none)
    (z_tuple : PySem.W.nsIn K mainGlobals "tuple" = some none)
    (gk0 : PySem.W.nsIn K mainGlobals "WRAP" = some (some (.int 1000000000000000000 tk0)))
    (nl : NoL K) (hq : ∀ ns : List Int, ns.length ≤ 63 → (∀ z ∈ ns, Builtin.Int.intBits z ≤ 1048576) → ∃ T, run G 40 [] 21 [.d (.list (ns.map .int))] [] = .ok (.d (.bool true)) T) :
    ∃ fd : FuncData, (∀ (s : Shared) (v : Value), BindsTo s fd ⟨[v], []⟩ [("_law_script", v)]) ∧ ∀ base : Heap, K.In base → base.Ns mainGlobals mg → FnOk l.prog w K mg base CX0 80 fa fd ["_law_script"] (fun vs H Q _ => ∃ (a : Addr) (ns : List Int), vs = [.ref a] ∧ SqL K H a (ns.map V.int) ∧ ns.length ≤ 63 ∧ (∀ z ∈ ns, Builtin.Int.intBits z ≤ 1048576) ∧ ∀ H', Q (.bl true) H') := by
  have e := hfa.symm.trans (PySem.W.mg_of X G' a21)
  cases e
  have F1 := fun_mk (st := s1) l1 c1 k1
  have bd1 := F1.binds (ps := ["self", "function", "held", "dyes"]) fun _ _ _ _ _ _ us hl => match us, hl with | [_, _, _, _], _ => rfl
  have F2 := fun_mk (st := s2) l2 c2 k2
  have bd2 := F2.binds (ps := ["self", "x", "value", "dyed"]) fun _ _ _ _ _ _ us hl => match us, hl with | [_, _, _, _], _ => rfl
  have F3 := fun_mk (st := s3) l3 c3 k3
  have bd3 := F3.binds (ps := ["self", "x"]) fun _ _ _ _ _ _ us hl => match us, hl with | [_, _], _ => rfl
  have F4 := fun_mk (st := s4) l4 c4 k4
  have bd4 := F4.binds (ps := ["program", "g", "given", "dyes"]) fun _ _ _ _ _ _ us hl => match us, hl with | [_, _, _, _], _ => rfl
  have F5 := fun_mk (st := s5) l5 c5 k5
  have bd5 := F5.binds (ps := ["op", "one", "other"]) fun _ _ _ _ _ _ us hl => match us, hl with | [_, _, _], _ => rfl
  have F6 := fun_mk (st := s6) l6 c6 k6
  have bd6 := F6.binds (ps := ["frame", "row"]) fun _ _ _ _ _ _ us hl => match us, hl with | [_, _], _ => rfl
  have F7 := fun_mk (st := s7) l7 c7 k7
  have bd7 := F7.binds (ps := ["program", "frame", "row"]) fun _ _ _ _ _ _ us hl => match us, hl with | [_, _, _], _ => rfl
  have F8 := fun_mk (st := s8) l8 c8 k8
  have bd8 := F8.binds (ps := ["steps", "frame"]) fun _ _ _ _ _ _ us hl => match us, hl with | [_, _], _ => rfl
  have F9 := fun_mk (st := s9) l9 c9 k9
  have bd9 := F9.binds (ps := ["program", "frames", "row", "steps", "states"]) fun _ _ _ _ _ _ us hl => match us, hl with | [_, _, _, _, _], _ => rfl
  have F10 := fun_mkD (st := s10) (dvs := [V.int 0, V.int 400]) l10 c10 k10 dl10 tv_d10 (by simp)
  obtain ⟨dz10_0, vd10_0, bd10_0⟩ := F10.binds1 (ps := ["program", "values", "dyed", "most"]) 4 2 (by simp) rfl fun _ _ _ _ _ _ _ us its hu hi => match us, hu, its, hi with | [_, _, _, _], _, [_, _], _ => ⟨_, rfl, rfl⟩
  have F11 := fun_mk (st := s11) l11 c11 k11
  have bd11 := F11.binds (ps := ["_law_script", "_law_k"]) fun _ _ _ _ _ _ us hl => match us, hl with | [_, _], _ => rfl
  have F12 := fun_mk (st := s12) l12 c12 k12
  have bd12 := F12.binds (ps := ["_law_script", "_law_k"]) fun _ _ _ _ _ _ us hl => match us, hl with | [_, _], _ => rfl
  have F13 := fun_mk (st := s13) l13 c13 k13
  have bd13 := F13.binds (ps := ["_law_state_here", "_law_many"]) fun _ _ _ _ _ _ us hl => match us, hl with | [_, _], _ => rfl
  have F14 := fun_mk (st := s14) l14 c14 k14
  have bd14 := F14.binds (ps := ["_law_state_here", "_law_v"]) fun _ _ _ _ _ _ us hl => match us, hl with | [_, _], _ => rfl
  have F15 := fun_mk (st := s15) l15 c15 k15
  have bd15 := F15.binds (ps := ["_law_state_here", "_law_kind_here", "_law_v", "_law_heads_here", "_law_many"]) fun _ _ _ _ _ _ us hl => match us, hl with | [_, _, _, _, _], _ => rfl
  have F16 := fun_mk (st := s16) l16 c16 k16
  have bd16 := F16.binds (ps := ["_law_script", "_law_functions", "_law_variables"]) fun _ _ _ _ _ _ us hl => match us, hl with | [_, _, _], _ => rfl
  have F17 := fun_mk (st := s17) l17 c17 k17
  have bd17 := F17.binds (ps := ["_law_script", "_law_heads_here", "_law_cells"]) fun _ _ _ _ _ _ us hl => match us, hl with | [_, _, _], _ => rfl
  have F18 := fun_mk (st := s18) l18 c18 k18
  have bd18 := F18.binds (ps := ["_law_script", "_law_functions", "_law_variables", "_law_cells"]) fun _ _ _ _ _ _ us hl => match us, hl with | [_, _, _, _], _ => rfl
  have F19 := fun_mk (st := s19) l19 c19 k19
  have bd19 := F19.binds (ps := ["_law_script", "_law_given"]) fun _ _ _ _ _ _ us hl => match us, hl with | [_, _], _ => rfl
  have F20 := fun_mk (st := s20) l20 c20 k20
  have bd20 := F20.binds (ps := ["_law_told", "_law_few"]) fun _ _ _ _ _ _ us hl => match us, hl with | [_, _], _ => rfl
  have F21 := fun_mk (st := s21) l21 c21 k21
  have bd21 := F21.binds (ps := ["_law_script"]) fun _ _ _ _ _ _ us hl => match us, hl with | [_], _ => rfl
  let ca : Nat → Addr := fun i => match i with
    | 0 => C0
    | _ => 0
  have lev : ∀ (base : Heap) (n : Nat), FnOk l.prog w K mg base CX0 (2 * n) f1 (PySem.W.fnOf "__init__" "Frame.__init__" (defArgs s1) (defBody s1) (defScope s1) .none kV1 dc1 pm1 an1 cd1 ct1) ["self", "function", "held", "dyes"] (spR ca (run G n) 1 4) ∧ FnOk l.prog w K mg base CX0 (2 * n) f2 (PySem.W.fnOf "put" "Frame.put" (defArgs s2) (defBody s2) (defScope s2) .none kV2 dc2 pm2 an2 cd2 ct2) ["self", "x", "value", "dyed"] (spR ca (run G n) 2 4) ∧ FnOk l.prog w K mg base CX0 (2 * n) f3 (PySem.W.fnOf "is_dyed" "Frame.is_dyed" (defArgs s3) (defBody s3) (defScope s3) .none kV3 dc3 pm3 an3 cd3 ct3) ["self", "x"] (spR ca (run G n) 3 2) ∧ FnOk l.prog w K mg base CX0 (2 * n) f4 (PySem.W.fnOf "new_frame" "new_frame" (defArgs s4) (defBody s4) (defScope s4) .none kV4 dc4 pm4 an4 cd4 ct4) ["program", "g", "given", "dyes"] (spR ca (run G n) 4 4) ∧ FnOk l.prog w K mg base CX0 (2 * n) f5 (PySem.W.fnOf "worked_out" "worked_out" (defArgs s5) (defBody s5) (defScope s5) .none kV5 dc5 pm5 an5 cd5 ct5) ["op", "one", "other"] (spR ca (run G n) 5 3) ∧ FnOk l.prog w K mg base CX0 (2 * n) f6 (PySem.W.fnOf "do_row" "do_row" (defArgs s6) (defBody s6) (defScope s6) .none kV6 dc6 pm6 an6 cd6 ct6) ["frame", "row"] (spR ca (run G n) 6 2) ∧ FnOk l.prog w K mg base CX0 (2 * n) f7 (PySem.W.fnOf "called" "called" (defArgs s7) (defBody s7) (defScope s7) .none kV7 dc7 pm7 an7 cd7 ct7) ["program", "frame", "row"] (spR ca (run G n) 7 3) ∧ FnOk l.prog w K mg base CX0 (2 * n) f8 (PySem.W.fnOf "state_of" "state_of" (defArgs s8) (defBody s8) (defScope s8) .none kV8 dc8 pm8 an8 cd8 ct8) ["steps", "frame"] (spR ca (run G n) 8 2) ∧ FnOk l.prog w K mg base CX0 (2 * n) f9 (PySem.W.fnOf "given_back" "given_back" (defArgs s9) (defBody s9) (defScope s9) .none kV9 dc9 pm9 an9 cd9 ct9) ["program", "frames", "row", "steps", "states"] (spR ca (run G n) 9 5) ∧ FnOk l.prog w K mg base CX0 (2 * n) f10 (PySem.W.fnOf "run" "run" (defArgs s10) (defBody s10) (defScope s10) (.ref T10) kV10 dc10 pm10 an10 cd10 ct10) ["program", "values", "dyed", "most"] (spR ca (run G n) 10 4) ∧ FnOk l.prog w K mg base CX0 (2 * n) f11 (PySem.W.fnOf "_law_cell" "_law_cell" (defArgs s11) (defBody s11) (defScope s11) .none kV11 dc11 pm11 an11 cd11 ct11) ["_law_script", "_law_k"] (spR ca (run G n) 11 2) ∧ FnOk l.prog w K mg base CX0 (2 * n) f12 (PySem.W.fnOf "_law_state" "_law_state" (defArgs s12) (defBody s12) (defScope s12) .none kV12 dc12 pm12 an12 cd12 ct12) ["_law_script", "_law_k"] (spR ca (run G n) 12 2) ∧ FnOk l.prog w K mg base CX0 (2 * n) f13 (PySem.W.fnOf "_law_next" "_law_next" (defArgs s13) (defBody s13) (defScope s13) .none kV13 dc13 pm13 an13 cd13 ct13) ["_law_state_here", "_law_many"] (spR ca (run G n) 13 2) ∧ FnOk l.prog w K mg base CX0 (2 * n) f14 (PySem.W.fnOf "_law_kind" "_law_kind" (defArgs s14) (defBody s14) (defScope s14) .none kV14 dc14 pm14 an14 cd14 ct14) ["_law_state_here", "_law_v"] (spR ca (run G n) 14 2) ∧ FnOk l.prog w K mg base CX0 (2 * n) f15 (PySem.W.fnOf "_law_row" "_law_row" (defArgs s15) (defBody s15) (defScope s15) .none kV15 dc15 pm15 an15 cd15 ct15) ["_law_state_here", "_law_kind_here", "_law_v", "_law_heads_here", "_law_many"] (spR ca (run G n) 15 5) ∧ FnOk l.prog w K mg base CX0 (2 * n) f16 (PySem.W.fnOf "_law_heads" "_law_heads" (defArgs s16) (defBody s16) (defScope s16) .none kV16 dc16 pm16 an16 cd16 ct16) ["_law_script", "_law_functions", "_law_variables"] (spR ca (run G n) 16 3) ∧ FnOk l.prog w K mg base CX0 (2 * n) f17 (PySem.W.fnOf "_law_places" "_law_places" (defArgs s17) (defBody s17) (defScope s17) .none kV17 dc17 pm17 an17 cd17 ct17) ["_law_script", "_law_heads_here", "_law_cells"] (spR ca (run G n) 17 3) ∧ FnOk l.prog w K mg base CX0 (2 * n) f18 (PySem.W.fnOf "_law_program" "_law_program" (defArgs s18) (defBody s18) (defScope s18) .none kV18 dc18 pm18 an18 cd18 ct18) ["_law_script", "_law_functions", "_law_variables", "_law_cells"] (spR ca (run G n) 18 4) ∧ FnOk l.prog w K mg base CX0 (2 * n) f19 (PySem.W.fnOf "_law_values" "_law_values" (defArgs s19) (defBody s19) (defScope s19) .none kV19 dc19 pm19 an19 cd19 ct19) ["_law_script", "_law_given"] (spR ca (run G n) 19 2) ∧ FnOk l.prog w K mg base CX0 (2 * n) f20 (PySem.W.fnOf "_law_cut" "_law_cut" (defArgs s20) (defBody s20) (defScope s20) .none kV20 dc20 pm20 an20 cd20 ct20) ["_law_told", "_law_few"] (spR ca (run G n) 20 2) ∧ FnOk l.prog w K mg base CX0 (2 * n) fa (PySem.W.fnOf "law" "law" (defArgs s21) (defBody s21) (defScope s21) .none kV21 dc21 pm21 an21 cd21 ct21) ["_law_script"] (spR ca (run G n) 21 1) := by
      intro base n; induction n with
      | zero => exact ⟨def_0, def_0, def_0, def_0, def_0, def_0, def_0, def_0, def_0, def_0, def_0, def_0, def_0, def_0, def_0, def_0, def_0, def_0, def_0, def_0, def_0⟩
      | succ n ih =>
        obtain ⟨I1, I2, I3, I4, I5, I6, I7, I8, I9, I10, I11, I12, I13, I14, I15, I16, I17, I18, I19, I20, I21⟩ := ih
        have E : EnP l.prog w K mg base ca n := ⟨PySem.W.mg_none_of X G' z_abs,
          PySem.W.mg_none_of X G' z_int,
          PySem.W.mg_none_of X G' z_len,
          PySem.W.mg_none_of X G' z_list,
          PySem.W.mg_none_of X G' z_max,
          PySem.W.mg_none_of X G' z_min,
          PySem.W.mg_none_of X G' z_range,
          PySem.W.mg_none_of X G' z_tuple,
          ⟨_, .int 1000000000000000000, PySem.W.mg_of X G' gk0, ⟨_, rfl⟩, fun _ => .int _⟩,
          ⟨⟨pg0, hd0, po0, sa0⟩, nf_Frame_due⟩,
          ⟨⟨pg0, hd0, po0, sa0⟩, nf_Frame_dyes⟩,
          ⟨⟨pg0, hd0, po0, sa0⟩, nf_Frame_function⟩,
          ⟨⟨pg0, hd0, po0, sa0⟩, nf_Frame_held⟩,
          ⟨⟨_, _, _, [], [], I11.mono (by omega), PySem.W.mg_of X G' a11, k11, bd11, .nil, fun _ => .nil⟩, fun _ _ _ h => run_len G11 n _ _ _ h⟩,
          ⟨⟨_, _, _, [], [], I20.mono (by omega), PySem.W.mg_of X G' a20, k20, bd20, .nil, fun _ => .nil⟩, fun _ _ _ h => run_len G20 n _ _ _ h⟩,
          ⟨⟨_, _, _, [], [], I16.mono (by omega), PySem.W.mg_of X G' a16, k16, bd16, .nil, fun _ => .nil⟩, fun _ _ _ h => run_len G16 n _ _ _ h⟩,
          ⟨⟨_, _, _, [], [], I14.mono (by omega), PySem.W.mg_of X G' a14, k14, bd14, .nil, fun _ => .nil⟩, fun _ _ _ h => run_len G14 n _ _ _ h⟩,
          ⟨⟨_, _, _, [], [], I13.mono (by omega), PySem.W.mg_of X G' a13, k13, bd13, .nil, fun _ => .nil⟩, fun _ _ _ h => run_len G13 n _ _ _ h⟩,
          ⟨⟨_, _, _, [], [], I17.mono (by omega), PySem.W.mg_of X G' a17, k17, bd17, .nil, fun _ => .nil⟩, fun _ _ _ h => run_len G17 n _ _ _ h⟩,
          ⟨⟨_, _, _, [], [], I18.mono (by omega), PySem.W.mg_of X G' a18, k18, bd18, .nil, fun _ => .nil⟩, fun _ _ _ h => run_len G18 n _ _ _ h⟩,
          ⟨⟨_, _, _, [], [], I15.mono (by omega), PySem.W.mg_of X G' a15, k15, bd15, .nil, fun _ => .nil⟩, fun _ _ _ h => run_len G15 n _ _ _ h⟩,
          ⟨⟨_, _, _, [], [], I12.mono (by omega), PySem.W.mg_of X G' a12, k12, bd12, .nil, fun _ => .nil⟩, fun _ _ _ h => run_len G12 n _ _ _ h⟩,
          ⟨⟨_, _, _, [], [], I19.mono (by omega), PySem.W.mg_of X G' a19, k19, bd19, .nil, fun _ => .nil⟩, fun _ _ _ h => run_len G19 n _ _ _ h⟩,
          ⟨⟨_, _, _, [], [], I7.mono (by omega), PySem.W.mg_of X G' a7, k7, bd7, .nil, fun _ => .nil⟩, fun _ _ _ h => run_len G7 n _ _ _ h⟩,
          ⟨⟨_, _, _, [], [], I6.mono (by omega), PySem.W.mg_of X G' a6, k6, bd6, .nil, fun _ => .nil⟩, fun _ _ _ h => run_len G6 n _ _ _ h⟩,
          ⟨⟨_, _, _, [], [], I9.mono (by omega), PySem.W.mg_of X G' a9, k9, bd9, .nil, fun _ => .nil⟩, fun _ _ _ h => run_len G9 n _ _ _ h⟩,
          ⟨⟨_, _, _, [], [], I4.mono (by omega), PySem.W.mg_of X G' a4, k4, bd4, .nil, fun _ => .nil⟩, fun _ _ _ h => run_len G4 n _ _ _ h⟩,
          ⟨⟨_, _, _, _, dz10_0, I10.mono (by omega), PySem.W.mg_of X G' a10, k10, bd10_0, vd10_0, fun _ => .nil⟩, fun _ _ _ h => run_len G10 n _ _ _ h⟩,
          ⟨⟨_, _, _, [], [], I8.mono (by omega), PySem.W.mg_of X G' a8, k8, bd8, .nil, fun _ => .nil⟩, fun _ _ _ h => run_len G8 n _ _ _ h⟩,
          ⟨⟨_, _, _, [], [], I5.mono (by omega), PySem.W.mg_of X G' a5, k5, bd5, .nil, fun _ => .nil⟩, fun _ _ _ h => run_len G5 n _ _ _ h⟩,
          ⟨⟨_, _, _, ⟨pg0, hd0, po0, sa0⟩, ⟨a3, i3, k3⟩, I3.mono (by omega), bd3⟩, fun _ _ _ h => run_len G3 n _ _ _ h⟩,
          ⟨⟨_, _, _, ⟨pg0, hd0, po0, sa0⟩, ⟨a2, i2, k2⟩, I2.mono (by omega), bd2⟩, fun _ _ _ h => run_len G2 n _ _ _ h⟩,
          ⟨⟨_, _, _, _, rfl, ⟨mk0, a1, i1, kc0⟩, I1, PySem.W.mg_of X G' aC0, bd1⟩, fun _ _ _ h => run_len G1 n _ _ _ h⟩⟩
        exact ⟨ok1 F1 E, ok2 F2 E, ok3 F3 E, ok4 F4 E, ok5 F5 E, ok6 F6 E, ok7 F7 E, ok8 F8 E, ok9 F9 E, ok10 F10 E, ok11 F11 E, ok12 F12 E, ok13 F13 E, ok14 F14 E, ok15 F15 E, ok16 F16 E, ok17 F17 E, ok18 F18 E, ok19 F19 E, ok20 F20 E, ok21 F21 E⟩
  exact ⟨(PySem.W.fnOf "law" "law" (defArgs s21) (defBody s21) (defScope s21) .none kV21 dc21 pm21 an21 cd21 ct21), fun s v => .of_eq rfl, fun base _ _ => law_impB (lev base 40).2.2.2.2.2.2.2.2.2.2.2.2.2.2.2.2.2.2.2.2 nl hq⟩
theorem walk {l : PySem.W.OpenLaw} {q : Program} {loose : List Str} {XP : (Str → Option Value) → Heap → Prop} {YP : World → Heap → Prop} {d : DefRec} {K : Params → PySem.W.Frag} (hn : l.most = some 63) (hdf : d.params.defaults = [])
    (hY : ∀ (w : World) (h : Heap), YP w h → (K w.params).In h)
    (F : ∀ (w : World) (mg : Str → Option Value) (fa : Addr) (h : Heap), (K w.params).In h → h.Ns mainGlobals mg → mg d.name = some (.ref fa) →
      ∃ fd : FuncData, (∀ (s : Shared) (u : Value), BindsTo s fd ⟨[u], []⟩ [("_law_script", u)]) ∧ ∀ base : Heap, (K w.params).In base → base.Ns mainGlobals mg → FnOk l.prog w (K w.params) mg base CX0 80 fa fd ["_law_script"] (fun vs H Q _ => ∃ (a : Addr) (ns : List Int), vs = [.ref a] ∧ SqL (K w.params) H a (ns.map V.int) ∧ ns.length ≤ 63 ∧ (∀ z ∈ ns, Builtin.Int.intBits z ≤ 1048576) ∧ ∀ H', Q (.bl true) H')) :
    PySem.W.WalkO q loose XP YP l.row.toRowW d [] (fun f vs => PySem.call f vs) :=
  L2.walk_ofB (n := 63) (k := 80) (x := "_law_script") (CX := fun _ => CX0) (sp := fun w => fun vs H Q _ => ∃ (a : Addr) (ns : List Int), vs = [.ref a] ∧ SqL (K w.params) H a (ns.map V.int) ∧ ns.length ≤ 63 ∧ (∀ z ∈ ns, Builtin.Int.intBits z ≤ 1048576) ∧ ∀ H', Q (.bl true) H') hn (by decide) hdf ⟨rfl, by decide, by decide⟩ hY F (fun _ _ a ns hl hb _ hS => ⟨a, ns, rfl, hS, hl, hb, fun _ => rfl⟩) fun _ _ _ _ _ z => z
end Lk73
open PySem PySem.W PyProof.Rows in
set_option maxRecDepth 100000 in
set_option maxHeartbeats 0 in
theorem PySem.Challenge.cw_callmatch_k73_whole_dyes_add_up_holds : PySem.Challenge.rw_callmatch_k73_whole_dyes_add_up.Holds := by
  w_on; o_law; k_head; (case hw => w_witness2)
  k_fill
  refine Lk73.walk (l := PySem.Challenge.rw_callmatch_k73_whole_dyes_add_up) rfl rfl (fun w h Y => PySem.W.kIn_of Y) ?F
  case F =>
    intro w mg fa h KX G hmg
    refine' Lk73.all_mk KX G hmg ?a1 ?i1 ?l1 ?c1 ?k1 ?a2 ?i2 ?l2 ?c2 ?k2 ?a3 ?i3 ?l3 ?c3 ?k3 ?a4 ?l4 ?c4 ?k4 ?a5 ?l5 ?c5 ?k5 ?a6 ?l6 ?c6 ?k6 ?a7 ?l7 ?c7 ?k7 ?a8 ?l8 ?c8 ?k8 ?a9 ?l9 ?c9 ?k9 ?a10 ?l10 ?dl10 ?tv_d10 ?c10 ?k10 ?a11 ?l11 ?c11 ?k11 ?a12 ?l12 ?c12 ?k12 ?a13 ?l13 ?c13 ?k13 ?a14 ?l14 ?c14 ?k14 ?a15 ?l15 ?c15 ?k15 ?a16 ?l16 ?c16 ?k16 ?a17 ?l17 ?c17 ?k17 ?a18 ?l18 ?c18 ?k18 ?a19 ?l19 ?c19 ?k19 ?a20 ?l20 ?c20 ?k20 ?a21 ?l21 ?c21 ?k21 ?aC0 ?pg0 ?hd0 ?po0 ?sa0 ?mk0 ?kc0 ?nf_Frame_due ?nf_Frame_dyes ?nf_Frame_function ?nf_Frame_held ?z_abs ?z_int ?z_len ?z_list ?z_max ?z_min ?z_range ?z_tuple ?gk0 ?nl ?hq
    (case aC0 => k_is)
    (case a1 => k_is)
    (case i1 => k_is)
    (case l1 => k_is)
    (case c1 => k_is)
    (case k1 => k_is)
    (case a2 => k_is)
    (case i2 => k_is)
    (case l2 => k_is)
    (case c2 => k_is)
    (case k2 => k_is)
    (case a3 => k_is)
    (case i3 => k_is)
    (case l3 => k_is)
    (case c3 => k_is)
    (case k3 => k_is)
    (case a4 => k_is)
    (case l4 => k_is)
    (case c4 => k_is)
    (case k4 => k_is)
    (case a5 => k_is)
    (case l5 => k_is)
    (case c5 => k_is)
    (case k5 => k_is)
    (case a6 => k_is)
    (case l6 => k_is)
    (case c6 => k_is)
    (case k6 => k_is)
    (case a7 => k_is)
    (case l7 => k_is)
    (case c7 => k_is)
    (case k7 => k_is)
    (case a8 => k_is)
    (case l8 => k_is)
    (case c8 => k_is)
    (case k8 => k_is)
    (case a9 => k_is)
    (case l9 => k_is)
    (case c9 => k_is)
    (case k9 => k_is)
    (case a10 => k_is)
    (case l10 => k_is)
    (case dl10 => k_is)
    (case tv_d10 => exact ⟨_, _, rfl, by repeat first | exact .nil | refine .cons ⟨_, rfl⟩ ?_⟩)
    (case c10 => k_is)
    (case k10 => k_is)
    (case a11 => k_is)
    (case l11 => k_is)
    (case c11 => k_is)
    (case k11 => k_is)
    (case a12 => k_is)
    (case l12 => k_is)
    (case c12 => k_is)
    (case k12 => k_is)
    (case a13 => k_is)
    (case l13 => k_is)
    (case c13 => k_is)
    (case k13 => k_is)
    (case a14 => k_is)
    (case l14 => k_is)
    (case c14 => k_is)
    (case k14 => k_is)
    (case a15 => k_is)
    (case l15 => k_is)
    (case c15 => k_is)
    (case k15 => k_is)
    (case a16 => k_is)
    (case l16 => k_is)
    (case c16 => k_is)
    (case k16 => k_is)
    (case a17 => k_is)
    (case l17 => k_is)
    (case c17 => k_is)
    (case k17 => k_is)
    (case a18 => k_is)
    (case l18 => k_is)
    (case c18 => k_is)
    (case k18 => k_is)
    (case a19 => k_is)
    (case l19 => k_is)
    (case c19 => k_is)
    (case k19 => k_is)
    (case a20 => k_is)
    (case l20 => k_is)
    (case c20 => k_is)
    (case k20 => k_is)
    (case a21 => k_is)
    (case l21 => k_is)
    (case c21 => k_is)
    (case k21 => k_is)
    (case pg0 => k_is)
    (case hd0 => k_is)
    (case po0 => k_is)
    (case sa0 => k_is)
    (case mk0 => k_is)
    (case kc0 => k_is)
    (case nf_Frame_due => k_is)
    (case nf_Frame_dyes => k_is)
    (case nf_Frame_function => k_is)
    (case nf_Frame_held => k_is)
    (case z_abs => k_is)
    (case z_int => k_is)
    (case z_len => k_is)
    (case z_list => k_is)
    (case z_max => k_is)
    (case z_min => k_is)
    (case z_range => k_is)
    (case z_tuple => k_is)
    (case gk0 => k_is)
    (case nl => exact Y.nol_of (by kernel_rfl))
    (case hq => exact Lk73.main)
#print axioms PySem.Challenge.cw_callmatch_k73_whole_dyes_add_up_holds

