import PyProof.Rows.All
import Wide.All
import OpenK.AllK
import Wide.FinOn
import HandS.ForMost
import HandS.Deep
import HandS.TupAny
import HandS.TupMul
import HandS.TupLe
import HandS.Wide
import HandS.IsInst
import HandS.WideBits
import HandS.TupLen
import HandS.Strs
import HandS.More
import HandS.Replace
import HandS.Iter
import HandS.Zip
import HandS.Style
import HandS.TryOnly
import KE.GoesEnum
import KE.BitLaws
import KE.IntBitsLaws
import HandS.Defaults
import HandS.Conv
import HandS.TupSets
import HandS.OwnEq
import HandS.ExcOwn
import HandS.WordsExc
import HandS.ExcIs
import HandS.ExcField
import KE.KExcIs
import HandS.ExcInit
import HandS.ClsMeth
import PySem.Challenge.RW_callmatch_k12_tables_of_pairs
set_option Elab.async false
set_option linter.all false
namespace Y
open PySem

abbrev D := PyData
/-- a key of a dict: ints and texts -/
abbrev Ky := List (Sum Int Str)

mutual
def beqD : D → D → Bool
  | .none, .none => true
  | .bool a, .bool b => a == b
  | .int a, .int b => decide (a = b)
  | .str a, .str b => decide (a = b)
  | .list a, .list b => beqDs a b
  | .tuple a, .tuple b => beqDs a b
  | .dict a, .dict b => beqDp a b
  | _, _ => false
def beqDp : List (D × D) → List (D × D) → Bool
  | [], [] => true
  | (a, x) :: as, (b, y) :: bs => beqD a b && beqD x y && beqDp as bs
  | _, _ => false
def beqDs : List D → List D → Bool
  | [], [] => true
  | a :: as, b :: bs => beqD a b && beqDs as bs
  | _, _ => false
end

/-- a value: a tree, a live cell, a tuple with live cells within -/
inductive U where
  | d (x : D) | ref (i : Nat) | tup (us : List U)

mutual
def beqU : U → U → Bool
  | .d a, .d b => beqD a b
  | .ref a, .ref b => decide (a = b)
  | .tup a, .tup b => beqUs a b
  | _, _ => false
def beqUs : List U → List U → Bool
  | [], [] => true
  | a :: as, b :: bs => beqU a b && beqUs as bs
  | _, _ => false
end

inductive Cell where
  | lst (ds : List D) | lstU (us : List U)
  | dct (kvs : List (Ky × D)) | dctU (kvs : List (Ky × U))
  | ins (c : Nat) (fs : List (Str × U))
  | exn (c : Nat) (fs : List (Str × D))
  | dead

abbrev Cs := List Cell
abbrev Rho := List (Option U)

inductive R (α : Type) where
  | ok (a : α) (T : Cs)
  | exc (c : Nat) (fs : List (Str × D)) (T : Cs)
  | fail
def R.bind {α β : Type} : R α → (α → Cs → R β) → R β
  | .ok a T, f => f a T
  | .exc c fs T, _ => .exc c fs T
  | .fail, _ => .fail
@[simp] theorem R.bind_ok {α β : Type} (a : α) (T : Cs) (f : α → Cs → R β) : (R.ok a T).bind f = f a T := rfl
@[simp] theorem R.bind_exc {α β : Type} (c : Nat) (fs : List (Str × D)) (T : Cs) (f : α → Cs → R β) : (R.exc c fs T).bind f = .exc c fs T := rfl
@[simp] theorem R.bind_fail {α β : Type} (f : α → Cs → R β) : (R.fail : R α).bind f = .fail := rfl
def R.ofO {α : Type} (T : Cs) : Option α → R α
  | some a => .ok a T
  | none => .fail
@[simp] theorem ofO_some {α : Type} (T : Cs) (a : α) : R.ofO T (some a) = .ok a T := rfl
@[simp] theorem ofO_none {α : Type} (T : Cs) : R.ofO T (none : Option α) = .fail := rfl

/-- a cell by its number: the outer ones first, then one's own -/
def getC (O T : Cs) (i : Nat) : Option Cell := if i < O.length then O[i]? else T[i - O.length]?

def allD : List U → Option (List D)
  | [] => some []
  | .d x :: r => (allD r).map (x :: ·)
  | _ :: _ => none
def mkT (us : List U) : U := match allD us with
  | some ds => .d (.tuple ds)
  | none => .tup us
def cellOf (us : List U) : Cell := match allD us with
  | some ds => .lst ds
  | none => .lstU us
/-- a new list: a live cell, or a tree -/
def mkL (O : Cs) (live : Bool) (us : List U) (T : Cs) : R U :=
  if live then .ok (.ref (O.length + T.length)) (T ++ [cellOf us])
  else match allD us with
    | some ds => .ok (.d (.list ds)) T
    | none => .fail

/-- what a list holds, a tuple holds -/
def seqL (O T : Cs) : U → Option (List U)
  | .d (.list ds) => some (ds.map .d)
  | .ref i => match getC O T i with
    | some (.lst ds) => some (ds.map .d)
    | some (.lstU us) => some us
    | _ => none
  | _ => none
def seqT : U → Option (List U)
  | .d (.tuple ds) => some (ds.map .d)
  | .tup us => some us
  | _ => none
def seqA (O T : Cs) (u : U) : Option (List U) := match seqL O T u with
  | some us => some us
  | none => seqT u

mutual
/-- the tree of a value, lists read where they stand by f -/
def tdU (f : Nat → Option D) : U → Option D
  | .d x => some x
  | .tup us => (tdUs f us).map .tuple
  | .ref i => f i
def tdUs (f : Nat → Option D) : List U → Option (List D)
  | [] => some []
  | u :: us => match tdU f u with
    | some x => (tdUs f us).map (x :: ·)
    | none => none
end
def tdR (O T : Cs) : Nat → Nat → Option D
  | 0, _ => none
  | n + 1, i => match getC O T i with
    | some (.lst ds) => some (.list ds)
    | some (.lstU us) => (tdUs (tdR O T n) us).map .list
    | _ => none
def toD (O T : Cs) (n : Nat) (u : U) : Option D := tdU (tdR O T n) u
def toDs (O T : Cs) (n : Nat) (us : List U) : Option (List D) := tdUs (tdR O T n) us
theorem toD_tup (O T : Cs) (n : Nat) (us : List U) : toD O T n (.tup us) = (toDs O T n us).map .tuple := rfl
theorem toD_ref0 (O T : Cs) (i : Nat) : toD O T 0 (.ref i) = none := rfl
theorem toD_refS (O T : Cs) (n i : Nat) : toD O T (n + 1) (.ref i) = match getC O T i with
    | some (.lst ds) => some (.list ds)
    | some (.lstU us) => (toDs O T n us).map .list
    | _ => none := rfl
theorem toDs_nil (O T : Cs) (n : Nat) : toDs O T n [] = some [] := rfl
theorem toDs_cons (O T : Cs) (n : Nat) (u : U) (us : List U) : toDs O T n (u :: us) = match toD O T n u with
    | some x => (toDs O T n us).map (x :: ·)
    | none => none := rfl

@[simp] theorem toD_d (O T : Cs) (n : Nat) (x : D) : toD O T n (.d x) = some x := rfl
inductive Op where | add | sub | mul | fdiv | mod | pow | shl | shr | band | bor | bxor
  deriving DecidableEq
inductive COp where | eq | ne | lt | le | gt | ge | is | isnot | isin | notin
  deriving DecidableEq
inductive BI where | len | list | tuple | sum | int | str | abs | max2 | min2 | max1 | min1 | all | any | isint | isbool | islist | istuple | isdict | isstr | dict | sorted | lenset | sortset | rev | stp (lo : Option Int) (k : Int) | isexn (ks no : List Nat) | xfld (ks : List Nat) (f : Str)
  deriving DecidableEq
inductive MT where | append | extend | pop | popAt | insert | reverse | clear | get1 | get2 | setdefault | index | join | split | strip | sindex
  deriving DecidableEq

@[irreducible] def mulOk (i j : Int) : Bool := (decide (-18446744073709551616 < i) && decide (i < 18446744073709551616)) || (decide (-18446744073709551616 < j) && decide (j < 18446744073709551616)) || decide (Builtin.Int.intBits i + Builtin.Int.intBits j ≤ 134217728)
def binI : Op → Int → Int → Option Int
  | .add, i, j => some (i + j)
  | .sub, i, j => some (i - j)
  | .mul, i, j => if mulOk i j then some (i * j) else none
  | .fdiv, i, j => if 0 < j ∧ j < 1000000000000000000000000000000000000000000000000000000000000 then some (i / j) else none
  | .mod, i, j => if 0 < j then some (i % j) else none
  | .pow, i, j => if 0 ≤ j ∧ j ≤ 1000 ∧ -18446744073709551616 < i ∧ i < 18446744073709551616 then some (i ^ j.toNat) else none
  | .shl, i, j => if 0 ≤ j ∧ j ≤ 1000 ∧ -18446744073709551616 < i ∧ i < 18446744073709551616 then some (i * 2 ^ j.toNat) else none
  | .shr, i, j => if 0 ≤ j then some (i / 2 ^ j.toNat) else none
  | .band, i, j => some (Builtin.bitAnd i j)
  | .bor, i, j => some (Builtin.bitOr i j)
  | .bxor, i, j => some (Builtin.bitXor i j)
def sizeOk (n : Nat) : Bool := decide (n ≤ 1000000)
def repS (a : Str) (n : Nat) : Str := if n = 1 then a else ⟨(List.replicate n a.cps).foldl (· ++ ·) #[]⟩
/-- a op b -/
def binU (O : Cs) (live : Bool) (o : Op) (x y : U) (T : Cs) : R U :=
  match o, x, y with
  | o, .d (.int i), .d (.int j) => match binI o i j with
    | some k => .ok (.d (.int k)) T
    | none => .fail
  | .add, .d (.str a), .d (.str b) => if sizeOk (a.length + b.length) then .ok (.d (.str (a ++ b))) T else .fail
  | .add, x, y => match seqL O T x, seqL O T y with
    | some us, some ws => if sizeOk (us.length + ws.length) then mkL O live (us ++ ws) T else .fail
    | none, none => match seqT x, seqT y with
      | some us, some ws => if sizeOk (us.length + ws.length) then .ok (mkT (us ++ ws)) T else .fail
      | _, _ => .fail
    | _, _ => .fail
  | .mul, .d (.str a), .d (.int k) => if decide (0 ≤ k) && decide (k ≤ 1000) && decide (a.length ≤ 1000) && decide (1 ≤ a.length) then .ok (.d (.str (repS a k.toNat))) T else .fail
  | .mul, x, .d (.int k) => match seqL O T x with
    | some us => if decide (0 ≤ k) && decide (k ≤ 1000000) && sizeOk (us.length * k.toNat) then mkL O live (List.replicate k.toNat us).flatten T else .fail
    | none => match seqT x with
      | some us => if !us.isEmpty && decide (1 ≤ k) && decide (k ≤ 1000) && decide (us.length ≤ 1000) then .ok (mkT (List.replicate k.toNat us).flatten) T else .fail
      | none => .fail
  | _, _, _ => .fail
def isNone : U → Bool
  | .d .none => true
  | _ => false
def ltU : U → U → Option Bool
  | .d (.int i), .d (.int j) => some (decide (i < j))
  | _, _ => none
/-- keys of dicts -/
def keyOf1 : D → Option (Sum Int Str)
  | .int i => some (.inl i)
  | .str s => some (.inr s)
  | _ => none
def keysOf : List D → Option Ky
  | [] => some []
  | x :: r => match keyOf1 x, keysOf r with
    | some k, some ks => some (k :: ks)
    | _, _ => none
def keyU : U → Option Ky
  | .d (.tuple ds) => keysOf ds
  | _ => none
def lookK {α : Type} (kvs : List (Ky × α)) (k : Ky) : Option α := (kvs.find? fun p => decide (p.1 = k)).map (·.2)
def putK {α : Type} (kvs : List (Ky × α)) (k : Ky) (v : α) : List (Ky × α) :=
  if kvs.any fun p => decide (p.1 = k) then kvs.map fun p => if p.1 = k then (p.1, v) else p else kvs ++ [(k, v)]
def dictOf (O T : Cs) : U → Option (List (Ky × U))
  | .ref i => match getC O T i with
    | some (.dct kvs) => some (kvs.map fun p => (p.1, .d p.2))
    | some (.dctU kvs) => some kvs
    | _ => none
  | _ => none
/-- shapes that == goes through -/
def shp (d : D) : Bool := SeqAt.shaped d
def cmpU (O : Cs) (o : COp) (x y : U) (T : Cs) : Option Bool :=
  match o with
  | .is => if isNone y then some (isNone x) else match x, y with
    | .d (.bool a), .d (.bool b) => some (decide (a = b))
    | _, _ => none
  | .isnot => if isNone y then some (!isNone x) else none
  | .eq => match toD O T 3 x, toD O T 3 y with
    | some a, some b => if shp a && shp b then some (PyData.eqv a b) else none
    | _, _ => none
  | .ne => match toD O T 3 x, toD O T 3 y with
    | some a, some b => if shp a && shp b then some (!PyData.eqv a b) else none
    | none, some (.list []) => match x with
      | .ref i => match getC O T i with
        | some (.lstU (_ :: _)) => some true
        | _ => none
      | _ => none
    | _, _ => none
  | .lt => match x, y with
    | .d (.int i), .d (.int j) => some (decide (i < j))
    | .d (.tuple [.int a, .int b]), .d (.tuple [.int c, .int e]) => some (decide (a < c ∨ a = c ∧ b < e))
    | _, _ => none
  | .le => match x, y with
    | .d (.int i), .d (.int j) => some (decide (i ≤ j))
    | _, _ => none
  | .gt => match x, y with
    | .d (.int i), .d (.int j) => some (decide (j < i))
    | _, _ => none
  | .ge => match x, y with
    | .d (.int i), .d (.int j) => some (decide (j ≤ i))
    | _, _ => none
  | .isin => isinU O x y T
  | .notin => (isinU O x y T).map (!·)
where
  isinU (O : Cs) (x y : U) (T : Cs) : Option Bool :=
    match dictOf O T y with
    | some kvs => match keyU x with
      | some k => some (lookK kvs k).isSome
      | none => none
    | none => match x, y with
      | .d (.str c), .d (.str z) => match c with
        | ⟨⟨[k]⟩⟩ => some (decide (k ∈ z.cps.toList))
        | _ => none
      | .d a, .d (.tuple ds) => if flat a && ds.all flat then some (ds.any fun z => PyData.eqv z a) else none
      | x, y => match toD O T 3 x, toD O T 3 y with
        | some a, some (.list ds) => if shp a && shp (.list ds) then some (ds.any fun z => PyData.eqv z a) else none
        | _, _ => none
  flat : D → Bool
    | .int _ | .str _ | .none | .bool _ => true
    | _ => false

/-- x[i] -/
def ixU (O : Cs) (x y : U) (T : Cs) : Option U :=
  match y with
  | .d (.int i) => match x with
    | .d (.list ds) => (L2.atI ds i).map .d
    | .d (.tuple ds) => (L2.atI ds i).map .d
    | .d (.str s) => if sizeOk s.length then (L2.atI s.cps.toList i).map fun c => .d (.str ⟨#[c]⟩) else none
    | .tup us => L2.atI us i
    | .ref r => match getC O T r with
      | some (.lst ds) => (L2.atI ds i).map .d
      | some (.lstU us) => L2.atI us i
      | _ => none
    | _ => none
  | y => match dictOf O T x, keyU y with
    | some kvs, some k => lookK kvs k
    | _, _ => none
def cut {α : Type} (xs : List α) (lo hi : Option Int) : List α := (xs.drop (HT.sIx xs.length 0 lo)).take (HT.sIx xs.length xs.length hi - HT.sIx xs.length 0 lo)
/-- x[l:h] -/
def slcU (O : Cs) (live : Bool) (x : U) (l h : Option Int) (T : Cs) : R U := match seqL O T x with
  | some us => mkL O live (cut us l h) T
  | none => match seqT x with
    | some us => .ok (mkT (cut us l h)) T
    | none => match x with
      | .d (.str s) => if sizeOk s.length then .ok (.d (.str ⟨(cut s.cps.toList l h).toArray⟩)) T else .fail
      | _ => .fail
def setC (O T : Cs) (i : Nat) (c : Cell) : R U := if O.length ≤ i ∧ i < O.length + T.length then .ok (.d .none) (T.set (i - O.length) c) else .fail
/-- o[i] = v -/
def setiU (O : Cs) (o i v : U) (T : Cs) : R U :=
  match o with
  | .ref r => match getC O T r with
    | some (.lst ds) => match i with
      | .d (.int k) => match L2.ixN ds.length k with
        | some j => match v with
          | .d x => setC O T r (.lst (ds.set j x))
          | v => setC O T r (.lstU ((ds.map .d).set j v))
        | none => .fail
      | _ => .fail
    | some (.lstU us) => match i with
      | .d (.int k) => match L2.ixN us.length k with
        | some j => setC O T r (.lstU (us.set j v))
        | none => .fail
      | _ => .fail
    | some (.dct kvs) => match keyU i with
      | some k => if sizeOk kvs.length then match v with
        | .d x => setC O T r (.dct (putK kvs k x))
        | v => if kvs.isEmpty then setC O T r (.dctU [(k, v)]) else .fail
        else .fail
      | none => .fail
    | some (.dctU kvs) => match keyU i with
      | some k => if sizeOk kvs.length then setC O T r (.dctU (putK kvs k v)) else .fail
      | none => .fail
    | _ => .fail
  | _ => .fail
def fldU (O : Cs) (o : U) (f : Str) (T : Cs) : Option U :=
  match o with
  | .ref r => match getC O T r with
    | some (.ins _ fs) => fs.lookup f
    | _ => none
  | _ => none
def putFU (f : Str) (v : U) : List (Str × U) → List (Str × U)
  | [] => [(f, v)]
  | (g, x) :: r => if g = f then (g, v) :: r else (g, x) :: putFU f v r
def setfU (O : Cs) (o : U) (f : Str) (v : U) (T : Cs) : R U :=
  match o with
  | .ref r => match getC O T r with
    | some (.ins c fs) => if fs.length < 100 then setC O T r (.ins c (putFU f v fs)) else .fail
    | _ => .fail
  | _ => .fail
def intsOf : List D → Option (List Int)
  | [] => some []
  | .int i :: r => (intsOf r).map (i :: ·)
  | _ :: _ => none
def boolsOf : List D → Option (List Bool)
  | [] => some []
  | .bool i :: r => (boolsOf r).map (i :: ·)
  | _ :: _ => none
def strsOf : List D → Option (List Str)
  | [] => some []
  | .str i :: r => (strsOf r).map (i :: ·)
  | _ :: _ => none
def listD (O T : Cs) (u : U) : Option (List D) := match u with
  | .d (.list ds) => some ds
  | .ref i => match getC O T i with
    | some (.lst ds) => some ds
    | _ => none
  | _ => none
/-- built-in functions -/
def one (us : List U) (f : U → R U) : R U := match us with
  | [x] => f x
  | _ => .fail
def two (us : List U) (f : U → U → R U) : R U := match us with
  | [x, y] => f x y
  | _ => .fail
@[simp] theorem one_one (x : U) (f : U → R U) : one [x] f = f x := rfl
@[simp] theorem two_two (x y : U) (f : U → U → R U) : two [x, y] f = f x y := rfl
def lenB (O T : Cs) (x : U) : R U := match x with
  | .d (.str s) => if sizeOk s.length then .ok (.d (.int s.length)) T else .fail
  | x => match seqA O T x with
    | some us => .ok (.d (.int us.length)) T
    | none => match dictOf O T x with
      | some kvs => .ok (.d (.int kvs.length)) T
      | none => .fail
/-- the different ones of some texts -/
def difS (l : List Str) (x : Str) : List Str := if x ∈ l then l else l ++ [x]
def dif (xs : List Str) : List Str := xs.foldl difS []
/-- len(set(x)), x texts -/
def lensetB (O T : Cs) (x : U) : R U := match (seqL O T x).bind allD with
  | some ds => match strsOf ds with
    | some zs => if zs.length ≤ 60 then .ok (.d (.int (dif zs).length)) T else .fail
    | none => .fail
  | none => .fail
def listB (O : Cs) (l : Bool) (T : Cs) (x : U) : R U := match seqA O T x with
  | some us => mkL O l us T
  | none => .fail
def tupleB (O T : Cs) (x : U) : R U := match seqL O T x with
  | some us => .ok (mkT us) T
  | none => match seqT x with
    | some _ => .ok x T
    | none => .fail
def sumB (O T : Cs) (x : U) : R U := match (listD O T x).bind intsOf with
  | some ns => .ok (.d (.int ns.sum)) T
  | none => .fail
def allB (O T : Cs) (x : U) : R U := match (listD O T x).bind boolsOf with
  | some bs => .ok (.d (.bool (bs.all id))) T
  | none => .fail
def anyB (O T : Cs) (x : U) : R U := match (listD O T x).bind boolsOf with
  | some bs => .ok (.d (.bool (bs.any id))) T
  | none => .fail
def intB (T : Cs) (x : U) : R U := match x with
  | .d (.int i) => .ok (.d (.int i)) T
  | .d (.bool b) => .ok (.d (.int (if b then 1 else 0))) T
  | .d (.str s) => match PySem.intText? s with
    | some n => if decide (s.length ≤ 640) then .ok (.d (.int n)) T else .fail
    | none => .fail
  | _ => .fail
def strB (T : Cs) (x : U) : R U := match x with
  | .d (.int i) => if decide (-1000000000000000000000000000000000000000000000000000000000000 < i) && decide (i < 1000000000000000000000000000000000000000000000000000000000000) then .ok (.d (.str (toString i))) T else .fail
  | _ => .fail
def absB (T : Cs) (x : U) : R U := match x with
  | .d (.int i) => .ok (.d (.int (if i < 0 then -i else i))) T
  | _ => .fail
def max2B (T : Cs) (x y : U) : R U := match x, y with
  | .d (.int i), .d (.int j) => .ok (.d (.int (if j > i then j else i))) T
  | _, _ => .fail
def min2B (T : Cs) (x y : U) : R U := match x, y with
  | .d (.int i), .d (.int j) => .ok (.d (.int (if j < i then j else i))) T
  | _, _ => .fail
/-- the class of a value, by its name -/
inductive Ty where | non | bool | int | str | list | tuple | dict
  deriving DecidableEq
def tyU (O T : Cs) : U → Option Ty
  | .d .none => some .non
  | .d (.bool _) => some .bool
  | .d (.int _) => some .int
  | .d (.str _) => some .str
  | .d (.list _) => some .list
  | .d (.tuple _) => some .tuple
  | .tup _ => some .tuple
  | .ref i => match getC O T i with
    | some (.lst _) | some (.lstU _) => some .list
    | some (.dct _) | some (.dctU _) => some .dict
    | _ => none
  | _ => none
def isB (O T : Cs) (t : Ty) (x : U) : R U := match tyU O T x with
  | some a => .ok (.d (.bool (decide (a = t) || (decide (a = .bool) && decide (t = .int))))) T
  | none => .fail
/-- every k-th from lo on -/
def pickS {α : Type} (lo : Option Int) (k : Int) (us : List α) : List α :=
  (sliceRange (sliceBounds lo none (some k) us.length).1 (sliceBounds lo none (some k) us.length).2.1 (sliceBounds lo none (some k) us.length).2.2).filterMap fun i => us[i]?
def stpB (O : Cs) (live : Bool) (lo : Option Int) (k : Int) (T : Cs) (x : U) : R U := match seqL O T x with
  | some us => if decide (1 ≤ k) then mkL O live (pickS lo k us) T else .fail
  | none => .fail
/-- an exception at hand: is it of these classes; its fields -/
def isexnB (O T : Cs) (ks no : List Nat) (x : U) : R U := match x with
  | .ref i => match getC O T i with
    | some (.exn k _) => if k ∈ ks then .ok (.d (.bool true)) T else if k ∈ no then .ok (.d (.bool false)) T else .fail
    | _ => .fail
  | _ => .fail
def xfldB (O T : Cs) (ks : List Nat) (f : Str) (x : U) : R U := match x with
  | .ref i => match getC O T i with
    | some (.exn k fs) => if k ∈ ks then match fs.lookup f with
      | some v => .ok (.d v) T
      | none => .fail
      else .fail
    | _ => .fail
  | _ => .fail
/-- pairs of small numbers, sorted, each once -/
def pairsOf : List D → Option (List (Int × Int))
  | [] => some []
  | .tuple [.int a, .int b] :: r => if 0 ≤ a ∧ a < 64 ∧ 0 ≤ b ∧ b < 64 then (pairsOf r).map ((a, b) :: ·) else none
  | _ => none
def pairN (z : Int × Int) : Nat := (z.1 * 64 + z.2).toNat
def sortP (zs : List (Int × Int)) : List (Int × Int) := ((List.range 4096).filter fun c => (zs.map pairN).contains c).map fun c => (((c / 64 : Nat) : Int), ((c % 64 : Nat) : Int))
def pairD (z : Int × Int) : D := .tuple [.int z.1, .int z.2]
def sortsetB (O : Cs) (l : Bool) (T : Cs) (x : U) : R U := match (seqL O T x).bind allD with
  | some ds => match pairsOf ds with
    | some zs => if zs.length < 64 then mkL O l ((sortP zs).map fun z => .d (pairD z)) T else .fail
    | none => .fail
  | none => .fail
/-- list(reversed(..)) -/
def revB (O : Cs) (l : Bool) (T : Cs) (x : U) : R U := match seqL O T x with
  | some us => if sizeOk us.length then mkL O l us.reverse T else .fail
  | none => .fail
def biU (O : Cs) (live : Bool) (b : BI) (us : List U) (T : Cs) : R U :=
  match b with
  | .len => one us (lenB O T)
  | .list => one us (listB O live T)
  | .tuple => one us (tupleB O T)
  | .sum => one us (sumB O T)
  | .all => one us (allB O T)
  | .any => one us (anyB O T)
  | .int => one us (intB T)
  | .str => one us (strB T)
  | .abs => one us (absB T)
  | .max2 => two us (max2B T)
  | .min2 => two us (min2B T)
  | .isint => one us (isB O T .int)
  | .isbool => one us (isB O T .bool)
  | .isstr => one us (isB O T .str)
  | .islist => one us (isB O T .list)
  | .istuple => one us (isB O T .tuple)
  | .isdict => one us (isB O T .dict)
  | .lenset => one us (lensetB O T)
  | .sortset => one us (sortsetB O live T)
  | .rev => one us (revB O live T)
  | .stp lo k => one us (stpB O live lo k T)
  | .isexn ks no => one us (isexnB O T ks no)
  | .xfld ks f => one us (xfldB O T ks f)
  | _ => .fail
/-- a list's methods -/
def appU (O : Cs) (r : Nat) (v : U) (T : Cs) : R U := match getC O T r with
  | some (.lst ds) => if sizeOk ds.length then match v with
    | .d x => setC O T r (.lst (ds ++ [x]))
    | v => setC O T r (.lstU (ds.map .d ++ [v]))
    else .fail
  | some (.lstU us) => if sizeOk us.length then setC O T r (.lstU (us ++ [v])) else .fail
  | _ => .fail
def mtU (O : Cs) (live : Bool) (m : MT) (o : U) (as : List U) (T : Cs) : R U :=
  match m, o, as with
  | .append, .ref r, [v] => appU O r v T
  | .extend, .ref r, [v] => match getC O T r, seqL O T v with
    | some (.lst ds), some ws => if sizeOk (ds.length + ws.length) then setC O T r (cellOf (ds.map .d ++ ws)) else .fail
    | some (.lstU us), some ws => if sizeOk (us.length + ws.length) then setC O T r (.lstU (us ++ ws)) else .fail
    | _, _ => .fail
  | .pop, .ref r, [] => match getC O T r with
    | some (.lst ds) => match ds.getLast? with
      | some x => (setC O T r (.lst ds.dropLast)).bind fun _ T => .ok (.d x) T
      | none => .fail
    | some (.lstU us) => match us.getLast? with
      | some x => (setC O T r (.lstU us.dropLast)).bind fun _ T => .ok x T
      | none => .fail
    | _ => .fail
  | .popAt, .ref r, [.d (.int i)] => match getC O T r with
    | some (.lst ds) => if decide (-1000000 ≤ i) && decide (i ≤ 1000000) then match PySem.seqIndex? i ds.length with
      | some k => match ds[k]? with
        | some x => (setC O T r (.lst (ds.eraseIdx k))).bind fun _ T => .ok (.d x) T
        | none => .fail
      | none => .fail
      else .fail
    | _ => .fail
  | .insert, .ref r, [.d (.int i), .d x] => match getC O T r with
    | some (.lst ds) => if decide (0 ≤ i) && decide (i ≤ 1000000) && sizeOk ds.length then setC O T r (.lst (ds.take i.toNat ++ [x] ++ ds.drop i.toNat)) else .fail
    | _ => .fail
  | .reverse, .ref r, [] => match getC O T r with
    | some (.lst ds) => setC O T r (.lst ds.reverse)
    | some (.lstU us) => setC O T r (.lstU us.reverse)
    | _ => .fail
  | .clear, .ref r, [] => match getC O T r with
    | some (.lst _) | some (.lstU _) => setC O T r (.lst [])
    | _ => .fail
  | .get1, o, [k] => match dictOf O T o, keyU k with
    | some kvs, some k => .ok ((lookK kvs k).getD (.d .none)) T
    | _, _ => .fail
  | .get2, o, [k, v] => match dictOf O T o, keyU k with
    | some kvs, some k => .ok ((lookK kvs k).getD v) T
    | _, _ => .fail
  | .setdefault, .ref r, [k, v] => match dictOf O T (.ref r), keyU k with
    | some kvs, some k' => match lookK kvs k' with
      | some x => .ok x T
      | none => (setiU O (.ref r) k v T).bind fun _ T => .ok v T
    | _, _ => .fail
  | .index, o, [.d y] => match (seqL O T o).bind allD with
    | some ds => if cmpU.flat y && ds.all cmpU.flat then match ds.findIdx? (fun z => PyData.eqv z y) with
      | some j => .ok (.d (.int (j : Nat))) T
      | none => .fail
      else .fail
    | none => .fail
  | .join, .d (.str s), [x] => match (seqA O T x).bind allD with
    | some ds => match strsOf ds with
      | some zs => if sizeOk ((zs.map (·.length)).sum + zs.length * s.length) then .ok (.d (.str (Txt.join s zs))) T else .fail
      | none => .fail
    | none => .fail
  | .sindex, .d (.str s), [.d (.str z)] => match Builtin.Str.occurrences s z 0 s.length 1 with
    | i :: _ => .ok (.d (.int (i : Nat))) T
    | [] => .fail
  | .strip, .d (.str s), [] => if sizeOk s.length then .ok (.d (.str (Txt.strip s))) T else .fail
  | .split, .d (.str s), [.d (.str z)] => if sizeOk s.length && !(z.length == 0) then mkL O live ((Txt.split s z).map fun x => .d (.str x)) T else .fail
  | _, _, _ => .fail
/-- a live list, made a tree for ever -/
def frzU (O : Cs) (x : U) (T : Cs) : R U :=
  match x with
  | .ref r => match getC O T r with
    | some (.lst ds) => (setC O T r .dead).bind fun _ T => .ok (.d (.list ds)) T
    | _ => .fail
  | x => .ok x T
end Y

set_option Elab.async false
set_option linter.all false
namespace Y
open PySem

mutual
inductive Tg where | nm (i : Nat) | tp (ts : Tgs) | lp (ts : Tgs)
inductive Tgs where | nil | cons (t : Tg) (ts : Tgs)
end
mutual
def asgT (O T : Cs) : Tg → U → Rho → Option Rho
  | .nm i, u, ρ => some (ρ.set i (some u))
  | .tp ts, u, ρ => match seqT u with
    | some us => asgTs O T ts us ρ
    | none => none
  | .lp ts, u, ρ => match seqL O T u with
    | some us => asgTs O T ts us ρ
    | none => none
def asgTs (O T : Cs) : Tgs → List U → Rho → Option Rho
  | .nil, [], ρ => some ρ
  | .cons t ts, u :: us, ρ => match asgT O T t u ρ with
    | some ρ' => asgTs O T ts us ρ'
    | none => none
  | _, _, _ => none
end

mutual
inductive CE where
  | v (i : Nat) | c (x : D) | g (k : Nat) | skip
  | bin (live : Bool) (o : Op) (a b : CE) | neg (a : CE)
  | cmp (o : COp) (a b : CE) | chain (o o' : COp) (a b e : CE)
  | and (a b : CE) | or (a b : CE) | not (a : CE) | ite (t a b : CE)
  | tup (as : CA) | lst (live : Bool) (as : CA)
  | ix (a b : CE) | slc (live : Bool) (a lo hi : CE)
  | call (live : Bool) (f : Nat) (as : CA) (ds : List D)
  | bi (live : Bool) (b : BI) (as : CA)
  | mt (live : Bool) (m : MT) (o : CE) (as : CA)
  | mcall (c f : Nat) (m : Str) (o : CE) (as : CA)
  | mk (c f : Nat) (as : CA)
  | fld (c : Nat) (o : CE) (f : Str)
  | comp (live : Bool) (elt : CE) (tg : Tg) (it : IT) (t : CE) (own : List Nat)
  | dict0
  | frz (a : CE)
inductive CA where | nil | cons (a : CE) (r : CA)
inductive IT where
  | lst (a : CE) | tup (a : CE) | rng1 (a : CE) | rng2 (a b : CE) | rng3 (a b c : CE) | enumL (a : CE) | enumT (a : CE) | revL (a : CE) | zipL (a b : CE) | zipTL (a b : CE)
  | keys (a : CE) | items (a : CE) | str (a : CE)
end

mutual
inductive CS where
  | asg (g : Tg) (e : CE) | setf (c : Nat) (o : CE) (f : Str) (e : CE) | seti (o i e : CE) | augf (c : Nat) (o : CE) (f : Str) (e : CE)
  | ex (e : CE) | ret (e : CE) | retN | brk | cnt | pass
  | ite (t : CE) (a b : CB) | for_ (g : Tg) (it : IT) (b : CB) | wh (n : Nat) (t : CE) (b : CB)
  | bad
  | raise (c : Nat) (ns : List Str) (as : CA) | xcall (g : Option Nat) (live : Bool) (f : Nat) (as : CA) | try_ (b : CB) (ks : List Nat) (sl : Option Nat) (s : CB)
inductive CB where | nil | cons (s : CS) (b : CB)
end

/-- what surrounds a body: calls one level down, makings (two down), constants, classes -/
structure Cn where
  call : Cs → Nat → List U → Cs → R U
  make : Cs → Nat → List U → Cs → R U
  glob : Nat → Option D

/-- the class that a built-in method is of -/
def mtTy : MT → Ty
  | .get1 | .get2 | .setdefault => .dict
  | .join | .split | .strip | .sindex => .str
  | _ => .list
def clsOf (O T : Cs) : U → Option Nat
  | .ref r => match getC O T r with
    | some (.ins c _) => some c
    | _ => none
  | _ => none
/-- a result becomes a tree -/
def pureRet (O T : Cs) (n : Nat) : Nat → U → Option D
  | _, .d x => some x
  | k + 1, .ref i => if n ≤ i then match getC O T i with
      | some (.lst ds) => some (.list ds)
      | _ => none
    else none
  | _, _ => none
/-- a call that leaves all as it was, and gives a tree -/
def callP (C : Cn) (O : Cs) (f : Nat) (us : List U) (T : Cs) : R U :=
  match C.call (O ++ T) f us [] with
  | .ok u T' => match u with
    | .d x => .ok (.d x) T
    | .ref i => if O.length + T.length ≤ i then match getC (O ++ T) T' i with
        | some (.lst ds) => .ok (.d (.list ds)) T
        | _ => .fail
      else .fail
    | .tup _ => .fail
  | .exc c fs _ => .exc c fs T
  | .fail => .fail

def wipeR (ρ : Rho) : List Nat → Rho
  | [] => ρ
  | v :: vs => (wipeR ρ vs).set v none

/-- the items that a for takes, and the live cell that must stay -/
structure Its where
  us : List U
  w : Option Nat
  t : Cs
def watch : U → Option Nat
  | .ref i => some i
  | _ => none
def beqDk : List (Ky × D) → List (Ky × D) → Bool
  | [], [] => true
  | (k, x) :: a, (l, y) :: b => decide (k = l) && beqD x y && beqDk a b
  | _, _ => false
def beqUk : List (Ky × U) → List (Ky × U) → Bool
  | [], [] => true
  | (k, x) :: a, (l, y) :: b => decide (k = l) && beqU x y && beqUk a b
  | _, _ => false
def beqC : Cell → Cell → Bool
  | .lst a, .lst b => beqDs a b
  | .lstU a, .lstU b => beqUs a b
  | .dct a, .dct b => beqDk a b
  | .dctU a, .dctU b => beqUk a b
  | _, _ => false
def sameW (O T T' : Cs) : Option Nat → Bool
  | none => true
  | some i => match getC O T i, getC O T' i with
    | some c, some c' => beqC c c'
    | _, _ => false

def kD : Sum Int Str → D
  | .inl i => .int i
  | .inr s => .str s
def keyD (k : Ky) : D := .tuple (k.map kD)

def rngU (lo : Int) (n : Nat) (c : Int) : List U := (List.range n).map fun i => .d (.int (lo + (i : Nat) * c))
@[irreducible] def rngOk (i j : Int) : Bool := decide (-4611686018427387904 ≤ i) && decide (i < 4611686018427387904) && decide (-4611686018427387904 ≤ j) && decide (j < 4611686018427387904)

inductive F where
  | nx (ρ : Rho) (T : Cs) | rt (u : U) (T : Cs) | bk (ρ : Rho) (T : Cs) | ct (ρ : Rho) (T : Cs)
  | exc (c : Nat) (fs : List (Str × D)) (ρ : Rho) (T : Cs) | fail
def F.of (ρ : Rho) : R U → (U → Cs → F) → F
  | .ok u T, k => k u T
  | _, _ => .fail
@[simp] theorem F.of_ok (ρ : Rho) (u : U) (T : Cs) (k : U → Cs → F) : F.of ρ (.ok u T) k = k u T := rfl
@[simp] theorem F.of_exc (ρ : Rho) (c : Nat) (fs : List (Str × D)) (T : Cs) (k : U → Cs → F) : F.of ρ (.exc c fs T) k = .fail := rfl
@[simp] theorem F.of_fail (ρ : Rho) (k : U → Cs → F) : F.of ρ .fail k = .fail := rfl

/-- a test's truth -/
def asB : U → Option Bool
  | .d (.bool b) => some b
  | _ => none

def brB {α : Type} (o : Option Bool) (p q : R α) : R α := match o with
  | some true => p
  | some false => q
  | none => .fail
@[simp] theorem brB_t {α : Type} (p q : R α) : brB (some true) p q = p := rfl
@[simp] theorem brB_f {α : Type} (p q : R α) : brB (some false) p q = q := rfl
@[simp] theorem brB_d {α : Type} (c : Prop) [Decidable c] (p q : R α) : brB (some (decide c)) p q = if c then p else q := by
  by_cases h : c <;> simp [h]
@[simp] theorem brB_b {α : Type} (b : Bool) (p q : R α) : brB (some b) p q = if b = true then p else q := by cases b <;> rfl
def partU (u : U) (T : Cs) : R (Option Int) := match u with
  | .d (.int i) => .ok (some i) T
  | _ => .fail
def isSkip : CE → Bool
  | .skip => true
  | _ => false
theorem R.bind_bind {α β γ : Type} (r : R α) (f : α → Cs → R β) (g : β → Cs → R γ) : (r.bind f).bind g = r.bind fun a T => (f a T).bind g := by cases r <;> rfl
theorem brB_bind {α β : Type} (o : Option Bool) (p q : R α) (g : α → Cs → R β) : (brB o p q).bind g = brB o (p.bind g) (q.bind g) := by
  cases o with
  | none => rfl
  | some b => cases b <;> rfl
/-- a comprehension's turns: the list grows in the cell n -/
def putC (n : Nat) (oy : Option U) (T : Cs) : R Unit := match oy with
  | none => .ok () T
  | some y => match T[n]? with
    | some (.lstU acc) => if sizeOk acc.length then .ok () (T.set n (.lstU (acc ++ [y]))) else .fail
    | _ => .fail
def compC (elt : U → Cs → R (Option U)) (ok : Cs → Bool) (n : Nat) : List U → Cs → R Unit
  | [], T => if ok T then .ok () T else .fail
  | u :: us, T => if ok T then (elt u T).bind fun oy T' => (putC n oy T').bind fun _ T'' => compC elt ok n us T'' else .fail
def beqFs : List (Str × U) → List (Str × U) → Bool
  | [], [] => true
  | (k, x) :: a, (l, y) :: b => decide (k = l) && beqU x y && beqFs a b
  | _, _ => false
def beqA : Cell → Cell → Bool
  | .lst a, .lst b => beqDs a b
  | .lstU a, .lstU b => beqUs a b
  | .dct a, .dct b => beqDk a b
  | .dctU a, .dctU b => beqUk a b
  | .ins c a, .ins d b => decide (c = d) && beqFs a b
  | .dead, .dead => true
  | .exn c a, .exn d b => decide (c = d) && beqFs (a.map fun p => (p.1, .d p.2)) (b.map fun p => (p.1, .d p.2))
  | _, _ => false
def beqCs : Cs → Cs → Bool
  | [], [] => true
  | a :: as, b :: bs => beqA a b && beqCs as bs
  | _, _ => false
/-- what a comprehension gives -/
def compE (O : Cs) (live : Bool) (T0 T' : Cs) : R U := match T'[T0.length]? with
  | some (.lstU acc) => if live then .ok (.ref (O.length + T0.length)) (T'.set T0.length (cellOf acc))
    else match allD acc with
      | some ds => if beqCs (T'.take T0.length) T0 && decide (T'.length = T0.length + 1) then .ok (.d (.list ds)) T0 else .ok (.d (.list ds)) (T'.set T0.length .dead)
      | none => .fail
  | _ => .fail

mutual
def den (C : Cn) (O : Cs) (ρ : Rho) : CE → Cs → R U
  | .v i, T => match ρ[i]? with
    | some (some u) => .ok u T
    | _ => .fail
  | .c x, T => .ok (.d x) T
  | .g k, T => match C.glob k with
    | some x => .ok (.d x) T
    | none => .fail
  | .skip, T => .ok (.d .none) T
  | .bin live o a b, T => (den C O ρ a T).bind fun x T => (den C O ρ b T).bind fun y T => binU O live o x y T
  | .neg a, T => (den C O ρ a T).bind fun x T => match x with
    | .d (.int i) => .ok (.d (.int (-i))) T
    | _ => .fail
  | .cmp o a b, T => (den C O ρ a T).bind fun x T => (den C O ρ b T).bind fun y T => match cmpU O o x y T with
    | some k => .ok (.d (.bool k)) T
    | none => .fail
  | .chain o o' a b e, T => (den C O ρ a T).bind fun x T => (den C O ρ b T).bind fun y T => match cmpU O o x y T with
    | some true => (den C O ρ e T).bind fun z T => match cmpU O o' y z T with
      | some k => .ok (.d (.bool k)) T
      | none => .fail
    | some false => .ok (.d (.bool false)) T
    | none => .fail
  | .and a b, T => (den C O ρ a T).bind fun x T => brB (asB x) (den C O ρ b T) (.ok (.d (.bool false)) T)
  | .or a b, T => (den C O ρ a T).bind fun x T => brB (asB x) (.ok (.d (.bool true)) T) (den C O ρ b T)
  | .not a, T => (den C O ρ a T).bind fun x T => match asB x with
    | some b => .ok (.d (.bool (!b))) T
    | none => .fail
  | .ite t a b, T => (den C O ρ t T).bind fun x T => brB (asB x) (den C O ρ a T) (den C O ρ b T)
  | .tup as, T => (denA C O ρ as T).bind fun us T => if sizeOk us.length then .ok (mkT us) T else .fail
  | .lst live as, T => (denA C O ρ as T).bind fun us T => if sizeOk us.length then mkL O live us T else .fail
  | .ix a b, T => (den C O ρ a T).bind fun x T => (den C O ρ b T).bind fun y T => R.ofO T (ixU O x y T)
  | .slc live a lo hi, T => (den C O ρ a T).bind fun x T => (if isSkip lo then .ok none T else (den C O ρ lo T).bind fun l T => partU l T).bind fun l T =>
      (if isSkip hi then .ok none T else (den C O ρ hi T).bind fun h T => partU h T).bind fun h T => slcU O live x l h T
  | .call live f as ds, T => (denA C O ρ as T).bind fun us T => if live then C.call O f (us ++ ds.map .d) T else callP C O f (us ++ ds.map .d) T
  | .bi live b as, T => (denA C O ρ as T).bind fun us T => biU O live b us T
  | .mt live m o as, T => (den C O ρ o T).bind fun x T => if tyU O T x = some (mtTy m) then (denA C O ρ as T).bind fun us T => mtU O live m x us T else .fail
  | .mcall c f m o as, T => (den C O ρ o T).bind fun x T => if clsOf O T x = some c ∧ (fldU O x m T).isNone = true then (denA C O ρ as T).bind fun us T => C.call O f (x :: us) T else .fail
  | .mk c f as, T => (denA C O ρ as T).bind fun us T => (C.make O f (.ref (O.length + T.length) :: us) (T ++ [.ins c []])).bind fun v T' => if isNone v then .ok (.ref (O.length + T.length)) T' else .fail
  | .fld c o f, T => (den C O ρ o T).bind fun x T => if clsOf O T x = some c then R.ofO T (fldU O x f T) else .fail
  | .comp live elt tg it t own, T => (denI C O ρ it T).bind fun its T0 =>
      (compC (fun u T => match asgT O T tg u (wipeR ρ own) with
        | some ρ' => (den C O ρ' t T).bind fun b T => brB (asB b) ((den C O ρ' elt T).bind fun y T => .ok (some y) T) (.ok none T)
        | none => .fail) (fun T' => sameW O its.t T' its.w) T0.length its.us (T0 ++ [.lstU []])).bind fun _ T' => compE O live T0 T'
  | .dict0, T => .ok (.ref (O.length + T.length)) (T ++ [.dct []])
  | .frz a, T => (den C O ρ a T).bind fun x T => frzU O x T
def denA (C : Cn) (O : Cs) (ρ : Rho) : CA → Cs → R (List U)
  | .nil, T => .ok [] T
  | .cons a r, T => (den C O ρ a T).bind fun u T => (denA C O ρ r T).bind fun us T => .ok (u :: us) T
def denI (C : Cn) (O : Cs) (ρ : Rho) : IT → Cs → R Its
  | .lst a, T => (den C O ρ a T).bind fun x T => match seqL O T x with
    | some us => .ok ⟨us, watch x, T⟩ T
    | none => .fail
  | .tup a, T => (den C O ρ a T).bind fun x T => match seqT x with
    | some us => .ok ⟨us, none, T⟩ T
    | none => .fail
  | .rng1 a, T => (den C O ρ a T).bind fun x T => match x with
    | .d (.int j) => if rngOk 0 j then .ok ⟨rngU 0 j.toNat 1, none, T⟩ T else .fail
    | _ => .fail
  | .rng2 a b, T => (den C O ρ a T).bind fun x T => (den C O ρ b T).bind fun y T => match x, y with
    | .d (.int i), .d (.int j) => if rngOk i j then .ok ⟨rngU i (j - i).toNat 1, none, T⟩ T else .fail
    | _, _ => .fail
  | .rng3 a b c, T => (den C O ρ a T).bind fun x T => (den C O ρ b T).bind fun y T => (den C O ρ c T).bind fun z T => match x, y, z with
    | .d (.int i), .d (.int j), .d (.int (-1)) => if rngOk i j then .ok ⟨rngU i (i - j).toNat (-1), none, T⟩ T else .fail
    | _, _, _ => .fail
  | .enumL a, T => (den C O ρ a T).bind fun x T => match seqL O T x with
    | some us => .ok ⟨us.zipIdx.map fun p => mkT [.d (.int (p.2 : Nat)), p.1], watch x, T⟩ T
    | none => .fail
  | .enumT a, T => (den C O ρ a T).bind fun x T => match seqT x with
    | some us => .ok ⟨us.zipIdx.map fun p => mkT [.d (.int (p.2 : Nat)), p.1], none, T⟩ T
    | none => .fail
  | .revL a, T => (den C O ρ a T).bind fun x T => match seqL O T x with
    | some us => .ok ⟨us.reverse, watch x, T⟩ T
    | none => .fail
  | .zipL a b, T => (den C O ρ a T).bind fun x T => (den C O ρ b T).bind fun y T => match seqL O T x, seqL O T y, watch x, watch y with
    | some us, some ws, none, none => .ok ⟨(us.zip ws).map fun p => mkT [p.1, p.2], none, T⟩ T
    | _, _, _, _ => match seqT x, seqT y with
      | some us, some ws => .ok ⟨(us.zip ws).map fun p => mkT [p.1, p.2], none, T⟩ T
      | _, _ => .fail
  | .zipTL a b, T => (den C O ρ a T).bind fun x T => (den C O ρ b T).bind fun y T => match seqT x, seqL O T y, watch y with
    | some us, some ws, none => .ok ⟨(us.zip ws).map fun p => mkT [p.1, p.2], none, T⟩ T
    | _, _, _ => .fail
  | .keys a, T => (den C O ρ a T).bind fun x T => match x with
    | .ref i => match dictOf O T (.ref i) with
      | some kvs => (setC O T i .dead).bind fun _ T' => .ok ⟨kvs.map fun p => .d (keyD p.1), none, T'⟩ T'
      | none => .fail
    | _ => .fail
  | .items a, T => (den C O ρ a T).bind fun x T => match dictOf O T x with
    | some kvs => .ok ⟨kvs.map fun p => mkT [.d (keyD p.1), p.2], watch x, T⟩ T
    | none => .fail
  | .str a, T => (den C O ρ a T).bind fun x T => match x with
    | .d (.str s) => .ok ⟨s.cps.toList.map fun c => .d (.str ⟨#[c]⟩), none, T⟩ T
    | _ => .fail
end

/-- a for's turns -/
def loopF (body : U → Rho → Cs → F) (ok : Cs → Bool) : List U → Rho → Cs → F
  | [], ρ, T => if ok T then .nx ρ T else .fail
  | u :: us, ρ, T => if ok T then match body u ρ T with
      | .nx ρ' T' | .ct ρ' T' => loopF body ok us ρ' T'
      | .bk ρ' T' => .nx ρ' T'
      | r => r
    else .fail
def loopW (test : Rho → Cs → R U) (body : Rho → Cs → F) : Nat → Rho → Cs → F
  | 0, _, _ => .fail
  | n + 1, ρ, T => F.of ρ (test ρ T) fun b T => match asB b with
    | some false => .nx ρ T
    | some true => match body ρ T with
      | .nx ρ' T' | .ct ρ' T' => loopW test body n ρ' T'
      | .bk ρ' T' => .nx ρ' T'
      | r => r
    | none => .fail

mutual
def denS (C : Cn) (O : Cs) : CS → Rho → Cs → F
  | .asg g e, ρ, T => F.of ρ (den C O ρ e T) fun u T => match asgT O T g u ρ with
    | some ρ' => .nx ρ' T
    | none => .fail
  | .setf c o f e, ρ, T => F.of ρ (den C O ρ e T) fun v T => F.of ρ (den C O ρ o T) fun x T => if clsOf O T x = some c then F.of ρ (setfU O x f v T) fun _ T => .nx ρ T else .fail
  | .seti o i e, ρ, T => F.of ρ (den C O ρ e T) fun v T => F.of ρ (den C O ρ o T) fun x T => F.of ρ (den C O ρ i T) fun y T => F.of ρ (setiU O x y v T) fun _ T => .nx ρ T
  | .augf c o f e, ρ, T => F.of ρ (den C O ρ o T) fun x T => if clsOf O T x = some c then match fldU O x f T with
      | some (.d (.int i)) => F.of ρ (den C O ρ e T) fun y T => match y with
        | .d (.int j) => if clsOf O T x = some c then F.of ρ (setfU O x f (.d (.int (i + j))) T) fun _ T => .nx ρ T else .fail
        | _ => .fail
      | _ => .fail
    else .fail
  | .ex e, ρ, T => F.of ρ (den C O ρ e T) fun _ T => .nx ρ T
  | .ret e, ρ, T => F.of ρ (den C O ρ e T) fun u T => .rt u T
  | .retN, ρ, T => .rt (.d .none) T
  | .brk, ρ, T => .bk ρ T
  | .cnt, ρ, T => .ct ρ T
  | .pass, ρ, T => .nx ρ T
  | .ite t a b, ρ, T => F.of ρ (den C O ρ t T) fun x T => match asB x with
    | some true => denB C O a ρ T
    | some false => denB C O b ρ T
    | none => .fail
  | .for_ g it b, ρ, T => match denI C O ρ it T with
    | .ok its T0 => loopF (fun u ρ T => match asgT O T g u ρ with
        | some ρ' => denB C O b ρ' T
        | none => .fail) (fun T' => sameW O its.t T' its.w) its.us ρ T0
    | _ => .fail
  | .wh n t b, ρ, T => loopW (fun ρ T => den C O ρ t T) (fun ρ T => denB C O b ρ T) n ρ T
  | .bad, _, _ => .fail
  | .raise c ns as, ρ, T => match denA C O ρ as T with
    | .ok us T' => match allD us with
      | some ds => if ds.length = ns.length then .exc c (ns.zip ds).reverse ρ T' else .fail
      | none => .fail
    | _ => .fail
  | .xcall g live f as, ρ, T => match denA C O ρ as T with
    | .ok us T1 => match (if live then C.call O f us T1 else callP C O f us T1) with
      | .ok u T2 => match g with
        | some i => .nx (ρ.set i (some u)) T2
        | none => .nx ρ T2
      | .exc c fs T2 => .exc c fs ρ T2
      | .fail => .fail
    | _ => .fail
  | .try_ b ks sl s, ρ, T => match denB C O b ρ T with
    | .exc k fs ρ' T' => if k ∈ ks then match sl with
        | some i => match denB C O s (ρ'.set i (some (.ref (O.length + T'.length)))) (T' ++ [.exn k fs]) with
          | .nx ρ2 T2 => .nx (ρ2.set i none) T2
          | .rt u T2 => .rt u T2
          | _ => .fail
        | none => match denB C O s ρ' T' with
          | .nx ρ2 T2 => .nx ρ2 T2
          | .rt u T2 => .rt u T2
          | _ => .fail
      else .fail
    | r => r
def denB (C : Cn) (O : Cs) : CB → Rho → Cs → F
  | .nil, ρ, T => .nx ρ T
  | .cons s b, ρ, T => match denS C O s ρ T with
    | .nx ρ' T' => denB C O b ρ' T'
    | r => r
end

/-- a def -/
structure FD where
  np : Nat
  ns : Nat
  body : CB
/-- a program: defs by number, constants, classes -/
structure Pg where
  defs : Nat → Option FD
  glob : Nat → Option D

def bodyRun (C : Cn) (O : Cs) (fd : FD) (us : List U) (T : Cs) : R U :=
  if us.length = fd.np then match denB C O fd.body (us.map some ++ List.replicate (fd.ns - us.length) none) T with
    | .nx _ T' => .ok (.d .none) T'
    | .rt u T' => .ok u T'
    | .exc c fs _ T' => .exc c fs T'
    | _ => .fail
  else .fail
def run (G : Pg) : Nat → Cs → Nat → List U → Cs → R U
  | 0, _, _, _, _ => .fail
  | n + 1, O, f, us, T => match G.defs f with
    | some fd => bodyRun ⟨run G n, run G n, G.glob⟩ O fd us T
    | none => .fail
end Y

set_option Elab.async false
set_option linter.all false
namespace Y
open PySem L2

def Ex (H H' : Hp) : Prop := ∀ a o, H a = some o → H' a = some o
theorem Ex.refl (H : Hp) : Ex H H := fun _ _ h => h
theorem Ex.trans {H H1 H2 : Hp} (a : Ex H H1) (b : Ex H1 H2) : Ex H H2 := fun x o h => b x o (a x o h)
theorem Ex.new {H : Hp} {p : Addr} {o : HO} (h : H p = none) : Ex H (upd H p o) := fun a u e => by
  rw [upd_ne (ne_of_none e h)]
  exact e
theorem Ex.none {H H' : Hp} (e : Ex H H') {p : Addr} (h : H' p = Option.none) : H p = Option.none := by
  cases h1 : H p with
  | none => rfl
  | some o =>
    rw [e p o h1] at h
    cases h
/-- an object that H does not know may change -/
theorem Ex.mut {H H' : Hp} {p : Addr} {o : HO} (e : Ex H H') (h : H p = Option.none) : Ex H (upd H' p o) := fun a u ha => by
  rw [upd_ne (ne_of_none ha h)]
  exact e a u ha
theorem Ex.both {H H' : Hp} {p : Addr} {o : HO} (e : Ex H H') : Ex (upd H p o) (upd H' p o) := fun a u ha => by
  by_cases h : a = p
  · subst h
    rw [upd_same] at ha ⊢
    exact ha
  · rw [upd_ne h] at ha ⊢
    exact e a u ha
theorem Ex.into {H H' : Hp} {p : Addr} {o : HO} (e : Ex H H') (h : H' p = some o) : Ex (upd H p o) H' := fun a u ha => by
  by_cases q : a = p
  · subst q
    rw [upd_same] at ha
    rw [h]
    exact ha
  · rw [upd_ne q] at ha
    exact e a u ha
theorem Ex.rd {H H' : Hp} {a : Addr} {u : HO} (e : Ex H H') (h : Rd H a u) : Rd H' a u := by
  rcases h with h | ⟨o, h⟩
  · exact .inl (e a _ h)
  · exact .inr ⟨o, e a _ h⟩

mutual
inductive Rp (G : Hp) : V → D → Prop
  | non : Rp G .non .none
  | bl (b : Bool) : Rp G (.bl b) (.bool b)
  | int (i : Int) : Rp G (.int i) (.int i)
  | str (x : Str) : Rp G (.str x) (.str x)
  | lst {a : Addr} {vs : List V} {ds : List D} : Rd G a (.lst vs) → Rps G vs ds → Rp G (.ref a) (.list ds)
  | tup {a : Addr} {vs : List V} {ds : List D} : G a = some (.tup vs) → Rps G vs ds → Rp G (.ref a) (.tuple ds)
inductive Rps (G : Hp) : List V → List D → Prop
  | nil : Rps G [] []
  | cons {v : V} {vs : List V} {d : D} {ds : List D} : Rp G v d → Rps G vs ds → Rps G (v :: vs) (d :: ds)
end
mutual
inductive RpU (G : Hp) (φ : List Addr) : V → U → Prop
  | d {v : V} {x : D} : Rp G v x → RpU G φ v (.d x)
  | ref {i : Nat} {a : Addr} : φ[i]? = some a → RpU G φ (.ref a) (.ref i)
  | tup {a : Addr} {vs : List V} {us : List U} : G a = some (.tup vs) → RpUs G φ vs us → RpU G φ (.ref a) (.tup us)
inductive RpUs (G : Hp) (φ : List Addr) : List V → List U → Prop
  | nil : RpUs G φ [] []
  | cons {v : V} {vs : List V} {u : U} {us : List U} : RpU G φ v u → RpUs G φ vs us → RpUs G φ (v :: vs) (u :: us)
end
section
variable {G G' H : Hp} {φ φ' : List Addr} {K : PySem.W.Frag}
mutual
theorem Rp.mono (e : Ex G G') : ∀ (d : D) (v : V), Rp G v d → Rp G' v d
  | .none, _, h => by cases h; exact .non
  | .bool b, _, h => by cases h; exact .bl b
  | .int i, _, h => by cases h; exact .int i
  | .str x, _, h => by cases h; exact .str x
  | .list ds, _, h => by
    cases h with
    | lst h1 h2 => exact .lst (e.rd h1) (Rps.mono e ds _ h2)
  | .tuple ds, _, h => by
    cases h with
    | tup h1 h2 => exact .tup (e _ _ h1) (Rps.mono e ds _ h2)
  | .dict _, _, h => by cases h
theorem Rps.mono (e : Ex G G') : ∀ (ds : List D) (vs : List V), Rps G vs ds → Rps G' vs ds
  | [], _, h => by cases h; exact .nil
  | d :: ds, _, h => by
    cases h with
    | cons h1 h2 => exact .cons (Rp.mono e d _ h1) (Rps.mono e ds _ h2)
end
mutual
theorem Rp.dp (e : Ex G H) : ∀ (d : D) (v : V), Rp G v d → Dp K H v d
  | .none, _, h => by cases h; exact .non
  | .bool b, _, h => by cases h; exact .bl b
  | .int i, _, h => by cases h; exact .int i
  | .str x, _, h => by cases h; exact .str x
  | .list ds, _, h => by
    cases h with
    | lst h1 h2 => exact .lst (.inl (e.rd h1)) (Rps.dp e ds _ h2)
  | .tuple ds, _, h => by
    cases h with
    | tup h1 h2 => exact .tup (.inl (.inl (e _ _ h1))) (Rps.dp e ds _ h2)
  | .dict _, _, h => by cases h
theorem Rps.dp (e : Ex G H) : ∀ (ds : List D) (vs : List V), Rps G vs ds → DpAll K H vs ds
  | [], _, h => by cases h; exact .nil
  | d :: ds, _, h => by
    cases h with
    | cons h1 h2 => exact .cons (Rp.dp e d _ h1) (Rps.dp e ds _ h2)
end
mutual
theorem RpU.mono (e : Ex G G') (p : ∀ (i : Nat) (a : Addr), φ[i]? = some a → φ'[i]? = some a) : ∀ (u : U) (v : V), RpU G φ v u → RpU G' φ' v u
  | .d x, _, h => by cases h with | d h => exact .d (Rp.mono e x _ h)
  | .ref i, _, h => by cases h with | ref h => exact .ref (p _ _ h)
  | .tup us, _, h => by cases h with | tup h1 h2 => exact .tup (e _ _ h1) (RpUs.mono e p us _ h2)
theorem RpUs.mono (e : Ex G G') (p : ∀ (i : Nat) (a : Addr), φ[i]? = some a → φ'[i]? = some a) : ∀ (us : List U) (vs : List V), RpUs G φ vs us → RpUs G' φ' vs us
  | [], _, h => by cases h; exact .nil
  | u :: us, _, h => by
    cases h with
    | cons h1 h2 => exact .cons (RpU.mono e p u _ h1) (RpUs.mono e p us _ h2)
end
/-- the refs of a value that stood under φ stay under φ -/
theorem sub_get (p : ∀ (i : Nat) (a : Addr), φ[i]? = some a → φ'[i]? = some a) {i : Nat} {a b : Addr} (h : φ[i]? = some a) (h' : φ'[i]? = some b) : φ[i]? = some b := by
  have := p i a h
  rw [h'] at this
  cases this
  exact h
mutual
theorem RpU.back (p : ∀ (i : Nat) (a : Addr), φ[i]? = some a → φ'[i]? = some a) : ∀ (u : U) (v v' : V), RpU G φ v u → RpU G' φ' v' u → RpU G' φ v' u
  | .d x, _, _, _, h => by cases h with | d h => exact .d h
  | .ref i, _, _, h0, h => by
    cases h0 with
    | ref h0 => cases h with | ref h => exact .ref (sub_get p h0 h)
  | .tup us, _, _, h0, h => by
    cases h0 with
    | tup _ g2 => cases h with | tup h1 h2 => exact .tup h1 (RpUs.back p us _ _ g2 h2)
theorem RpUs.back (p : ∀ (i : Nat) (a : Addr), φ[i]? = some a → φ'[i]? = some a) : ∀ (us : List U) (vs vs' : List V), RpUs G φ vs us → RpUs G' φ' vs' us → RpUs G' φ vs' us
  | [], _, _, _, h => by cases h; exact .nil
  | u :: us, _, _, h0, h => by
    cases h0 with
    | cons g1 g2 => cases h with | cons h1 h2 => exact .cons (RpU.back p u _ _ g1 h1) (RpUs.back p us _ _ g2 h2)
end
theorem Rps.length : ∀ {ds : List D} {vs : List V}, Rps G vs ds → vs.length = ds.length
  | [], _, h => by cases h; rfl
  | d :: ds, _, h => by cases h with | cons _ h2 => simp [Rps.length h2]
theorem RpUs.length : ∀ {us : List U} {vs : List V}, RpUs G φ vs us → vs.length = us.length
  | [], _, h => by cases h; rfl
  | d :: ds, _, h => by cases h with | cons _ h2 => simp [RpUs.length h2]
theorem Rps.get : ∀ {ds : List D} {vs : List V} {i : Nat} {x : D}, Rps G vs ds → ds[i]? = some x → ∃ v, vs[i]? = some v ∧ Rp G v x
  | [], _, _, _, _, e => by simp at e
  | d :: ds, _, 0, x, h, e => by cases h with | cons h1 _ => simp at e; subst e; exact ⟨_, rfl, h1⟩
  | d :: ds, _, i + 1, x, h, e => by
    cases h with
    | cons _ h2 =>
      obtain ⟨v, q1, q2⟩ := Rps.get (i := i) h2 (by simpa using e)
      exact ⟨v, by simpa using q1, q2⟩
theorem RpUs.get : ∀ {us : List U} {vs : List V} {i : Nat} {x : U}, RpUs G φ vs us → us[i]? = some x → ∃ v, vs[i]? = some v ∧ RpU G φ v x
  | [], _, _, _, _, e => by simp at e
  | d :: ds, _, 0, x, h, e => by cases h with | cons h1 _ => simp at e; subst e; exact ⟨_, rfl, h1⟩
  | d :: ds, _, i + 1, x, h, e => by
    cases h with
    | cons _ h2 =>
      obtain ⟨v, q1, q2⟩ := RpUs.get (i := i) h2 (by simpa using e)
      exact ⟨v, by simpa using q1, q2⟩
theorem RpUs.get' : ∀ {us : List U} {vs : List V} {i : Nat} {v : V}, RpUs G φ vs us → vs[i]? = some v → ∃ x, us[i]? = some x ∧ RpU G φ v x
  | [], _, _, _, h, e => by cases h; simp at e
  | d :: ds, _, 0, x, h, e => by cases h with | cons h1 _ => simp at e; subst e; exact ⟨_, rfl, h1⟩
  | d :: ds, _, i + 1, x, h, e => by
    cases h with
    | cons _ h2 =>
      obtain ⟨v, q1, q2⟩ := RpUs.get' (i := i) h2 (by simpa using e)
      exact ⟨v, by simpa using q1, q2⟩
theorem RpUs.append : ∀ {us ws : List U} {vs zs : List V}, RpUs G φ vs us → RpUs G φ zs ws → RpUs G φ (vs ++ zs) (us ++ ws)
  | [], _, _, _, h, q => by cases h; exact q
  | d :: ds, _, _, _, h, q => by cases h with | cons h1 h2 => exact .cons h1 (RpUs.append h2 q)
theorem RpUs.take : ∀ {us : List U} {vs : List V} (n : Nat), RpUs G φ vs us → RpUs G φ (vs.take n) (us.take n)
  | _, _, 0, _ => .nil
  | [], _, _ + 1, h => by cases h; exact .nil
  | d :: ds, _, n + 1, h => by cases h with | cons h1 h2 => exact .cons h1 (RpUs.take n h2)
theorem RpUs.drop : ∀ {us : List U} {vs : List V} (n : Nat), RpUs G φ vs us → RpUs G φ (vs.drop n) (us.drop n)
  | _, _, 0, h => h
  | [], _, _ + 1, h => by cases h; exact .nil
  | d :: ds, _, n + 1, h => by cases h with | cons h1 h2 => exact RpUs.drop n h2
theorem RpUs.set {v : V} {u : U} (h : RpU G φ v u) : ∀ {us : List U} {vs : List V} (n : Nat), RpUs G φ vs us → RpUs G φ (vs.set n v) (us.set n u)
  | [], _, _, q => by cases q; exact .nil
  | d :: ds, _, 0, q => by cases q with | cons _ h2 => exact .cons h h2
  | d :: ds, _, n + 1, q => by cases q with | cons h1 h2 => exact .cons h1 (RpUs.set h n h2)
theorem RpUs.reverse : ∀ {us : List U} {vs : List V}, RpUs G φ vs us → RpUs G φ vs.reverse us.reverse
  | [], _, h => by cases h; exact .nil
  | d :: ds, _, h => by
    cases h with
    | cons h1 h2 =>
      simp only [List.reverse_cons]
      exact (RpUs.reverse h2).append (.cons h1 .nil)
theorem RpUs.dropLast {us : List U} {vs : List V} (h : RpUs G φ vs us) : RpUs G φ vs.dropLast us.dropLast := by
  rw [List.dropLast_eq_take, List.dropLast_eq_take, h.length]
  exact h.take _
theorem RpUs.eraseIdx : ∀ {us : List U} {vs : List V} (n : Nat), RpUs G φ vs us → RpUs G φ (vs.eraseIdx n) (us.eraseIdx n)
  | [], _, _, q => by cases q; exact .nil
  | d :: ds, _, 0, q => by cases q with | cons _ h2 => exact h2
  | d :: ds, _, n + 1, q => by cases q with | cons h1 h2 => exact .cons h1 (RpUs.eraseIdx n h2)
theorem RpUs.replicate {us : List U} {vs : List V} (h : RpUs G φ vs us) : ∀ n : Nat, RpUs G φ (List.replicate n vs).flatten (List.replicate n us).flatten
  | 0 => .nil
  | n + 1 => by
    simp only [List.replicate_succ, List.flatten_cons]
    exact h.append (RpUs.replicate h n)
theorem Rps.up : ∀ {ds : List D} {vs : List V}, Rps G vs ds → RpUs G φ vs (ds.map .d)
  | [], _, h => by cases h; exact .nil
  | d :: ds, _, h => by cases h with | cons h1 h2 => exact .cons (.d h1) (Rps.up h2)
theorem RpUs.down : ∀ {us : List U} {vs : List V} {ds : List D}, RpUs G φ vs us → allD us = some ds → Rps G vs ds
  | [], _, ds, h, e => by cases h; simp [allD] at e; subst e; exact .nil
  | .d x :: us, _, ds, h, e => by
    cases h with
    | cons h1 h2 =>
      cases h1 with
      | d h1 =>
        simp only [allD, Option.map_eq_some_iff] at e
        obtain ⟨r, e1, rfl⟩ := e
        exact .cons h1 (RpUs.down h2 e1)
  | .ref _ :: us, _, ds, h, e => by simp [allD] at e
  | .tup _ :: us, _, ds, h, e => by simp [allD] at e
theorem RpUs.downD {ds : List D} {vs : List V} (h : RpUs G φ vs (ds.map .d)) : Rps G vs ds := by
  refine h.down ?_
  clear h
  induction ds with
  | nil => rfl
  | cons d ds ih => simp [allD, ih]
end
@[simp] theorem allD_map (ds : List D) : allD (ds.map .d) = some ds := by
  induction ds with
  | nil => rfl
  | cons d ds ih => simp [allD, ih]
@[simp] theorem allD_map' {α : Type} (f : α → D) (xs : List α) : allD (xs.map fun x => .d (f x)) = some (xs.map f) := by
  induction xs with
  | nil => rfl
  | cons d ds ih => simp [allD, ih]
theorem allD_of : ∀ {us : List U} {ds : List D}, allD us = some ds → us = ds.map .d
  | [], ds, e => by simp [allD] at e; subst e; rfl
  | .d x :: us, ds, e => by
    simp only [allD, Option.map_eq_some_iff] at e
    obtain ⟨r, e1, rfl⟩ := e
    rw [allD_of e1] <;> rfl
  | .ref _ :: us, ds, e => by simp [allD] at e
  | .tup _ :: us, ds, e => by simp [allD] at e

/-- pairs of a dict -/
inductive RpK (G : Hp) (φ : List Addr) : List (List Key × V) → List (Ky × U) → Prop
  | nil : RpK G φ [] []
  | cons {k : Ky} {v : V} {u : U} {ws kvs} : RpU G φ v u → RpK G φ ws kvs → RpK G φ ((k, v) :: ws) ((k, u) :: kvs)
/-- fields of an instance -/
inductive RpF (G : Hp) (φ : List Addr) : List (Str × V) → List (Str × U) → Prop
  | nil : RpF G φ [] []
  | cons {k : Str} {v : V} {u : U} {ws fs} : RpU G φ v u → RpF G φ ws fs → RpF G φ ((k, v) :: ws) ((k, u) :: fs)

/-- an exception's object stands at a -/
def xO (a C : Addr) (d : Option Addr) : HO := .ext fun h => ∃ oe, h.get? a = some oe ∧ oe.cls = .ref C ∧ oe.dict = d ∧ ∃ vs, oe.data = .fields vs
/-- the fields of an exception with the dict d -/
def XF (G : Hp) (d : Option Addr) (fs : List (Str × D)) : Prop := (fs = [] ∧ d = none) ∨ ∃ dx ws, d = some dx ∧ G dx = some (.xd ws) ∧ RpF G [] ws (fs.map fun p => (p.1, .d p.2))
theorem RpF.mono0 {G G' : Hp} (e : Ex G G') : ∀ {ws : List (Str × V)} {fs : List (Str × U)}, RpF G [] ws fs → RpF G' [] ws fs
  | _, _, .nil => .nil
  | _, _, .cons h t => .cons (RpU.mono e (fun _ _ h => h) _ _ h) (RpF.mono0 e t)
theorem XF.mono {G G' : Hp} {d : Option Addr} {fs : List (Str × D)} (e : Ex G G') (h : XF G d fs) : XF G' d fs := by
  rcases h with h | ⟨dx, ws, h1, h2, h3⟩
  · exact .inl h
  · exact .inr ⟨dx, ws, h1, e _ _ h2, h3.mono0 e⟩
/-- a live cell stands at a -/
def CellOk (ca : Nat → Addr) (G : Hp) (φ : List Addr) (H : Hp) (a : Addr) : Cell → Prop
  | .lst ds => ∃ vs, H a = some (.lst vs) ∧ Rps G vs ds
  | .lstU us => ∃ vs, H a = some (.lst vs) ∧ RpUs G φ vs us
  | .dct kvs => ∃ ws, H a = some (.dT ws) ∧ RpK G φ ws (kvs.map fun p => (p.1, .d p.2))
  | .dctU kvs => ∃ ws, H a = some (.dT ws) ∧ RpK G φ ws kvs
  | .ins c fs => ∃ dx ws, H a = some (.ins (ca c) dx ws) ∧ RpF G φ ws fs
  | .exn c fs => ∃ d, G a = some (xO a (ca c) d) ∧ XF G d fs
  | .dead => True
def live : Cell → Prop
  | .dead => False
  | .exn _ _ => False
  | _ => True
/-- the store S stands in H, over what is known for ever, G -/
structure Sd (ca : Nat → Addr) (φ : List Addr) (G H : Hp) (S : Cs) : Prop where
  len : φ.length = S.length
  nd : φ.Nodup
  ex : Ex G H
  off : ∀ (i : Nat) (a : Addr) (c : Cell), φ[i]? = some a → S[i]? = some c → live c → G a = none
  kn : ∀ (i : Nat) (a : Addr), φ[i]? = some a → ∃ o, H a = some o
  cell : ∀ (i : Nat) (a : Addr) (c : Cell), φ[i]? = some a → S[i]? = some c → CellOk ca G φ H a c
/-- locals -/
def Lo (G : Hp) (φ : List Addr) (σ : St) (ρ : Rho) : Prop := ∀ (i : Nat) (u : U), ρ[i]? = some (some u) → ∃ v, σ[i]? = some (some v) ∧ RpU G φ v u
/-- later: more is known, more cells -/
structure Fut (φ : List Addr) (G : Hp) (φ' : List Addr) (G' : Hp) : Prop where
  pre : ∀ (i : Nat) (a : Addr), φ[i]? = some a → φ'[i]? = some a
  ex : Ex G G'
theorem Fut.refl {φ : List Addr} {G : Hp} : Fut φ G φ G := ⟨fun _ _ h => h, Ex.refl G⟩
theorem Fut.trans {φ φ1 φ2 : List Addr} {G G1 G2 : Hp} (a : Fut φ G φ1 G1) (b : Fut φ1 G1 φ2 G2) : Fut φ G φ2 G2 := ⟨fun i x h => b.pre i x (a.pre i x h), a.ex.trans b.ex⟩
theorem Fut.u {φ φ1 : List Addr} {G G1 : Hp} (a : Fut φ G φ1 G1) {v : V} {u : U} (h : RpU G φ v u) : RpU G1 φ1 v u := RpU.mono a.ex a.pre u v h
theorem Fut.us {φ φ1 : List Addr} {G G1 : Hp} (a : Fut φ G φ1 G1) {v : List V} {u : List U} (h : RpUs G φ v u) : RpUs G1 φ1 v u := RpUs.mono a.ex a.pre u v h
theorem Fut.lo {φ φ1 : List Addr} {G G1 : Hp} (a : Fut φ G φ1 G1) {σ : St} {ρ : Rho} (h : Lo G φ σ ρ) : Lo G1 φ1 σ ρ := fun i u e =>
  let ⟨v, h1, h2⟩ := h i u e
  ⟨v, h1, a.u h2⟩
theorem Fut.k {φ φ1 : List Addr} {G G1 : Hp} (a : Fut φ G φ1 G1) : ∀ {ws : List (List Key × V)} {kvs : List (Ky × U)}, RpK G φ ws kvs → RpK G1 φ1 ws kvs
  | _, _, .nil => .nil
  | _, _, .cons h t => .cons (a.u h) (Fut.k a t)
theorem Fut.f {φ φ1 : List Addr} {G G1 : Hp} (a : Fut φ G φ1 G1) : ∀ {ws : List (Str × V)} {kvs : List (Str × U)}, RpF G φ ws kvs → RpF G1 φ1 ws kvs
  | _, _, .nil => .nil
  | _, _, .cons h t => .cons (a.u h) (Fut.f a t)
theorem RpK.back {φ φ' : List Addr} {G G' : Hp} (p : ∀ (i : Nat) (a : Addr), φ[i]? = some a → φ'[i]? = some a) : ∀ {ws ws' : List (List Key × V)} {kvs : List (Ky × U)}, RpK G φ ws kvs → RpK G' φ' ws' kvs → RpK G' φ ws' kvs
  | _, _, _, .nil, .nil => .nil
  | _, _, _, .cons g t, .cons h q => .cons (RpU.back p _ _ _ g h) (RpK.back p t q)
theorem RpF.back {φ φ' : List Addr} {G G' : Hp} (p : ∀ (i : Nat) (a : Addr), φ[i]? = some a → φ'[i]? = some a) : ∀ {ws ws' : List (Str × V)} {kvs : List (Str × U)}, RpF G φ ws kvs → RpF G' φ' ws' kvs → RpF G' φ ws' kvs
  | _, _, _, .nil, .nil => .nil
  | _, _, _, .cons g t, .cons h q => .cons (RpU.back p _ _ _ g h) (RpF.back p t q)
section
variable {ca : Nat → Addr} {φ φ' : List Addr} {G G' H H' : Hp} {S : Cs} {a : Addr} {c : Cell}
theorem CellOk.mono (f : Fut φ G φ' G') (e : H' a = H a) (h : CellOk ca G φ H a c) : CellOk ca G' φ' H' a c := by
  cases c with
  | lst ds => obtain ⟨vs, h1, h2⟩ := h; exact ⟨vs, e.trans h1, Rps.mono f.ex _ _ h2⟩
  | lstU us => obtain ⟨vs, h1, h2⟩ := h; exact ⟨vs, e.trans h1, f.us h2⟩
  | dct kvs => obtain ⟨vs, h1, h2⟩ := h; exact ⟨vs, e.trans h1, f.k h2⟩
  | dctU kvs => obtain ⟨vs, h1, h2⟩ := h; exact ⟨vs, e.trans h1, f.k h2⟩
  | ins k fs => obtain ⟨dx, vs, h1, h2⟩ := h; exact ⟨dx, vs, e.trans h1, f.f h2⟩
  | exn k fs => obtain ⟨d, h1, h2⟩ := h; exact ⟨d, f.ex _ _ h1, h2.mono f.ex⟩
  | dead => trivial
theorem CellOk.back (p : ∀ (i : Nat) (a : Addr), φ[i]? = some a → φ'[i]? = some a) (g : CellOk ca G φ H a c) (h : CellOk ca G' φ' H' a c) : CellOk ca G' φ H' a c := by
  cases c with
  | lst ds => exact h
  | lstU us => obtain ⟨_, _, g2⟩ := g; obtain ⟨vs, h1, h2⟩ := h; exact ⟨vs, h1, RpUs.back p _ _ _ g2 h2⟩
  | dct kvs => obtain ⟨_, _, g2⟩ := g; obtain ⟨vs, h1, h2⟩ := h; exact ⟨vs, h1, RpK.back p g2 h2⟩
  | dctU kvs => obtain ⟨_, _, g2⟩ := g; obtain ⟨vs, h1, h2⟩ := h; exact ⟨vs, h1, RpK.back p g2 h2⟩
  | ins k fs => obtain ⟨_, _, _, g2⟩ := g; obtain ⟨dx, vs, h1, h2⟩ := h; exact ⟨dx, vs, h1, RpF.back p g2 h2⟩
  | exn k fs => exact h
  | dead => trivial
theorem nd_ne (nd : φ.Nodup) {i j : Nat} {a b : Addr} (hi : φ[i]? = some a) (hj : φ[j]? = some b) (h : i ≠ j) : a ≠ b := by
  intro e
  subst e
  obtain ⟨li, ei⟩ := List.getElem?_eq_some_iff.mp hi
  obtain ⟨lj, ej⟩ := List.getElem?_eq_some_iff.mp hj
  exact h ((List.getElem?_inj li nd).mp (hi.trans hj.symm))
/-- a new thing that is known for ever -/
theorem Sd.know (s : Sd ca φ G H S) {p : Addr} {o : HO} (np : H p = none) : Sd ca φ (upd G p o) (upd H p o) S := by
  have ne : ∀ (i : Nat) (a : Addr), φ[i]? = some a → a ≠ p := fun i a h => by
    obtain ⟨o', h'⟩ := s.kn i a h
    exact ne_of_none h' np
  refine ⟨s.len, s.nd, s.ex.both, fun i a c h1 h2 h3 => ?_, fun i a h => ?_, fun i a c h1 h2 => ?_⟩
  · rw [upd_ne (ne i a h1)]; exact s.off i a c h1 h2 h3
  · rw [upd_ne (ne i a h)]; exact s.kn i a h
  · exact (s.cell i a c h1 h2).mono ⟨fun _ _ h => h, Ex.new (s.ex.none np)⟩ (upd_ne (ne i a h1))
theorem Sd.knowF (s : Sd ca φ G H S) {p : Addr} {o : HO} (np : H p = none) : Fut φ G φ (upd G p o) := ⟨fun _ _ h => h, Ex.new (s.ex.none np)⟩
/-- the heap grows by what nobody speaks of -/
theorem Sd.grow (s : Sd ca φ G H S) {p : Addr} {o : HO} (np : H p = none) : Sd ca φ G (upd H p o) S := by
  have ne : ∀ (i : Nat) (a : Addr), φ[i]? = some a → a ≠ p := fun i a h => by
    obtain ⟨o', h'⟩ := s.kn i a h
    exact ne_of_none h' np
  refine ⟨s.len, s.nd, s.ex.trans (Ex.new np), s.off, fun i a h => ?_, fun i a c h1 h2 => ?_⟩
  · rw [upd_ne (ne i a h)]; exact s.kn i a h
  · exact (s.cell i a c h1 h2).mono Fut.refl (upd_ne (ne i a h1))
theorem get_append_last {α : Type} {xs : List α} {x y : α} {i : Nat} (h : (xs ++ [x])[i]? = some y) : xs[i]? = some y ∨ i = xs.length ∧ y = x := by
  by_cases hi : i < xs.length
  · rw [List.getElem?_append_left hi] at h; exact .inl h
  · rw [List.getElem?_append_right (by omega)] at h
    have : i - xs.length = 0 := by
      cases q : i - xs.length with
      | zero => rfl
      | succ n => rw [q] at h; simp at h
    rw [this] at h
    simp at h
    exact .inr ⟨by omega, h.symm⟩
theorem pre_append (φ ψ : List Addr) : ∀ (i : Nat) (a : Addr), φ[i]? = some a → (φ ++ ψ)[i]? = some a := fun i a h => by
  rw [List.getElem?_append_left (List.getElem?_eq_some_iff.mp h).1]
  exact h
/-- a new live cell -/
theorem Sd.cellNew (s : Sd ca φ G H S) {p : Addr} {o : HO} {c : Cell} (np : H p = none) (hc : CellOk ca G (φ ++ [p]) (upd H p o) p c) : Sd ca (φ ++ [p]) G (upd H p o) (S ++ [c]) := by
  have ne : ∀ (i : Nat) (a : Addr), φ[i]? = some a → a ≠ p := fun i a h => by
    obtain ⟨o', h'⟩ := s.kn i a h
    exact ne_of_none h' np
  refine ⟨by simp [s.len], ?_, s.ex.trans (Ex.new np), fun i a c h1 h2 h3 => ?_, fun i a h => ?_, fun i a c h1 h2 => ?_⟩
  · rw [List.nodup_append]
    refine ⟨s.nd, by simp, fun a ha b hb => ?_⟩
    simp at hb
    subst hb
    obtain ⟨i, hi⟩ := List.getElem?_of_mem ha
    exact ne i a hi
  · rcases get_append_last h1 with h1 | ⟨e, rfl⟩
    · rcases get_append_last h2 with h2 | ⟨e, rfl⟩
      · exact s.off i a c h1 h2 h3
      · have := (List.getElem?_eq_some_iff.mp h1).1; rw [s.len] at this; omega
    · exact s.ex.none np
  · rcases get_append_last h with h1 | ⟨e, rfl⟩
    · rw [upd_ne (ne i a h1)]; exact s.kn i a h1
    · exact ⟨_, upd_same⟩
  · rcases get_append_last h1 with h1 | ⟨e, rfl⟩
    · rcases get_append_last h2 with h2 | ⟨e, rfl⟩
      · exact (s.cell i a c h1 h2).mono ⟨pre_append φ [p], Ex.refl G⟩ (upd_ne (ne i a h1))
      · have := (List.getElem?_eq_some_iff.mp h1).1; rw [s.len] at this; omega
    · rcases get_append_last h2 with h2 | ⟨e2, rfl⟩
      · have := (List.getElem?_eq_some_iff.mp h2).1; rw [← s.len] at this; omega
      · exact hc
theorem Sd.newF {p : Addr} : Fut φ G (φ ++ [p]) G := ⟨pre_append φ [p], Ex.refl G⟩
/-- a live cell is changed -/
theorem Sd.write (s : Sd ca φ G H S) {i : Nat} {a : Addr} {c c' : Cell} {o : HO} (hi : φ[i]? = some a) (hc : S[i]? = some c) (hl : live c) (h : CellOk ca G φ (upd H a o) a c') : Sd ca φ G (upd H a o) (S.set i c') := by
  have ga := s.off i a c hi hc hl
  have lt := (List.getElem?_eq_some_iff.mp hc).1
  refine ⟨by simp [s.len], s.nd, s.ex.mut ga, fun j b d h1 h2 h3 => ?_, fun j b h1 => ?_, fun j b d h1 h2 => ?_⟩
  · by_cases e : j = i
    · subst e; rw [hi] at h1; cases h1; exact ga
    · rw [List.getElem?_set_ne (Ne.symm e)] at h2; exact s.off j b d h1 h2 h3
  · by_cases e : b = a
    · subst e; exact ⟨_, upd_same⟩
    · rw [upd_ne e]; exact s.kn j b h1
  · by_cases e : j = i
    · subst e
      rw [hi] at h1; cases h1
      rw [List.getElem?_set_self lt] at h2; cases h2
      exact h
    · rw [List.getElem?_set_ne (Ne.symm e)] at h2
      exact (s.cell j b d h1 h2).mono Fut.refl (upd_ne (nd_ne s.nd h1 hi e))
/-- a live list becomes known for ever -/
theorem Sd.freeze (s : Sd ca φ G H S) {i : Nat} {a : Addr} {c : Cell} {o : HO} (hi : φ[i]? = some a) (hc : S[i]? = some c) (hl : live c) (h : H a = some o) : Sd ca φ (upd G a o) H (S.set i .dead) := by
  have ga := s.off i a c hi hc hl
  have lt := (List.getElem?_eq_some_iff.mp hc).1
  refine ⟨by simp [s.len], s.nd, s.ex.into h, fun j b d h1 h2 h3 => ?_, s.kn, fun j b d h1 h2 => ?_⟩
  · by_cases e : j = i
    · subst e; rw [List.getElem?_set_self lt] at h2; cases h2; exact h3.elim
    · rw [List.getElem?_set_ne (Ne.symm e)] at h2
      rw [upd_ne (nd_ne s.nd h1 hi e)]
      exact s.off j b d h1 h2 h3
  · by_cases e : j = i
    · subst e; rw [List.getElem?_set_self lt] at h2; cases h2; trivial
    · rw [List.getElem?_set_ne (Ne.symm e)] at h2
      exact (s.cell j b d h1 h2).mono ⟨fun _ _ h => h, Ex.new ga⟩ rfl
theorem Sd.freezeF (s : Sd ca φ G H S) {i : Nat} {a : Addr} {c : Cell} {o : HO} (hi : φ[i]? = some a) (hc : S[i]? = some c) (hl : live c) : Fut φ G φ (upd G a o) := ⟨fun _ _ h => h, Ex.new (s.off i a c hi hc hl)⟩
/-- behind a call that leaves the cells as they were, its own cells forgotten -/
theorem Sd.drop {S' : Cs} (s : Sd ca φ G H S) (f : Fut φ G φ' G') (s' : Sd ca φ' G' H' (S ++ S')) : Sd ca φ G' H' S := by
  refine ⟨s.len, s.nd, s'.ex, fun i a c h1 h2 h3 => ?_, fun i a h => s'.kn i a (f.pre i a h), fun i a c h1 h2 => ?_⟩
  · exact s'.off i a c (f.pre i a h1) (by rw [List.getElem?_append_left (List.getElem?_eq_some_iff.mp h2).1]; exact h2) h3
  · exact (s.cell i a c h1 h2).back f.pre (s'.cell i a c (f.pre i a h1) (by rw [List.getElem?_append_left (List.getElem?_eq_some_iff.mp h2).1]; exact h2))
theorem getC_eq (O T : Cs) (i : Nat) : getC O T i = (O ++ T)[i]? := by
  unfold getC
  by_cases h : i < O.length
  · rw [if_pos h, List.getElem?_append_left h]
  · rw [if_neg h, List.getElem?_append_right (by omega)]
theorem set_own (O T : Cs) (i : Nat) (c : Cell) (h : O.length ≤ i) : (O ++ T).set i c = O ++ T.set (i - O.length) c := by
  rw [List.set_append_right (h := h)]
end
end Y

set_option Elab.async false
set_option linter.all false
set_option maxRecDepth 100000
set_option maxHeartbeats 1000000
namespace Y
open PySem PySem.Spec L2

section
variable {ca : Nat → Addr} {α β γ : Type} {φ φ' : List Addr} {G G' H : Hp} {O : Cs}
/-- what is wanted of a result -/
def Pc (ca : Nat → Addr) (rel : Hp → List Addr → β → α → Prop) (φ : List Addr) (G : Hp) (O : Cs) (r : R α) (Q : β → Hp → Prop) : Prop :=
  match r with
  | .ok a T => ∀ (b : β) (φ' : List Addr) (G' H' : Hp), Fut φ G φ' G' → Sd ca φ' G' H' (O ++ T) → rel G' φ' b a → Q b H'
  | .exc _ _ _ => False
  | .fail => False
def rU (G : Hp) (φ : List Addr) (v : V) (u : U) : Prop := RpU G φ v u
def rUs (G : Hp) (φ : List Addr) (v : List V) (u : List U) : Prop := RpUs G φ v u
def rB (_ : Hp) (_ : List Addr) (b : Bool) (u : Bool) : Prop := b = u
def tst (r : R U) : R Bool := r.bind fun u T => R.ofO T (asB u)
theorem Pc.later {rel : Hp → List Addr → β → α → Prop} {r : R α} {Q : β → Hp → Prop} (f : Fut φ G φ' G') (h : Pc ca rel φ G O r Q) : Pc ca rel φ' G' O r Q := by
  cases r with
  | ok a T => exact fun b φ2 G2 H2 f2 s r => h b φ2 G2 H2 (f.trans f2) s r
  | exc => exact h
  | fail => exact h
theorem Pc.imp {rel : Hp → List Addr → β → α → Prop} {r : R α} {Q Q' : β → Hp → Prop} (h : Pc ca rel φ G O r Q) (k : ∀ b H', Q b H' → Q' b H') : Pc ca rel φ G O r Q' := by
  cases r with
  | ok a T => exact fun b φ2 G2 H2 f2 s r => k _ _ (h b φ2 G2 H2 f2 s r)
  | exc => exact h
  | fail => exact h
/-- what is known when a part is through -/
structure Mid (ca : Nat → Addr) (rel : Hp → List Addr → β → α → Prop) (φ : List Addr) (G : Hp) (O : Cs) (b : β) (H' : Hp) (k : α → Cs → List Addr → Hp → Prop) : Prop where
  ex : ∃ (φ' : List Addr) (G' : Hp) (T' : Cs) (a : α), Fut φ G φ' G' ∧ Sd ca φ' G' H' (O ++ T') ∧ rel G' φ' b a ∧ k a T' φ' G'
theorem Pc.bind {δ : Type} {rel : Hp → List Addr → β → α → Prop} {rel2 : Hp → List Addr → δ → γ → Prop} {r : R α} {k : α → Cs → R γ} {Q : δ → Hp → Prop} (h : Pc ca rel2 φ G O (r.bind k) Q) :
    Pc ca rel φ G O r (fun b H' => Mid ca rel φ G O b H' fun a T' φ' G' => Pc ca rel2 φ' G' O (k a T') Q) := by
  cases r with
  | ok a T =>
    have h : Pc ca rel2 φ G O (k a T) Q := h
    exact fun b φ2 G2 H2 f2 s r => ⟨φ2, G2, T, a, f2, s, r, h.later f2⟩
  | exc => exact h
  | fail => exact h
/-- the same, the wish kept as it was told first -/
theorem Pc.keep {δ : Type} {rel : Hp → List Addr → β → α → Prop} {rel2 : Hp → List Addr → δ → γ → Prop} {φ1 : List Addr} {G1 : Hp} {r : R α} {k : α → Cs → R γ} {Q : δ → Hp → Prop} (h : Pc ca rel2 φ1 G1 O (r.bind k) Q) :
    Pc ca rel φ G O r (fun b H' => Mid ca rel φ G O b H' fun a T' φ' G' => Pc ca rel2 φ1 G1 O (k a T') Q) := by
  cases r with
  | ok a T =>
    have h : Pc ca rel2 φ1 G1 O (k a T) Q := h
    exact fun b φ2 G2 H2 f2 s r => ⟨φ2, G2, T, a, f2, s, r, h⟩
  | exc => exact h
  | fail => exact h
/-- at once -/
theorem Pc.now {rel : Hp → List Addr → β → α → Prop} {a : α} {b : β} {T : Cs} {Q : β → Hp → Prop} (h : Pc ca rel φ G O (.ok a T) Q) (s : Sd ca φ G H (O ++ T)) (r : rel G φ b a) : Q b H := h b φ G H Fut.refl s r
theorem _root_.L2.PE.imp {X : Cx} {e : Expr} {t t' : TE} (h : PE X e t) (k : ∀ σ H Q, t' σ H Q → t σ H Q) : PE X e t' := ⟨fun pins s σ H Q I q => h.run pins s σ H Q I (k σ H Q q)⟩
theorem _root_.L2.PT.imp {X : Cx} {e : Expr} {t t' : TT} (h : PT X e t) (k : ∀ σ H Q, t' σ H Q → t σ H Q) : PT X e t' := ⟨fun pins s σ H Q I q => h.run pins s σ H Q I (k σ H Q q)⟩
theorem _root_.L2.PW.imp {X : Cx} {e : Expr} {t t' : TT} (h : PW X e t) (k : ∀ σ H Q, t' σ H Q → t σ H Q) : PW X e t' := ⟨fun wh pins s σ H Q I q => h.run wh pins s σ H Q I (k σ H Q q)⟩
theorem _root_.L2.PA.imp {X : Cx} {e : List Expr} {t t' : TA} (h : PA X e t) (k : ∀ σ H Q, t' σ H Q → t σ H Q) : PA X e t' := ⟨fun pos pins s σ H Q I q => h.run pos pins s σ H Q I (k σ H Q q)⟩
theorem _root_.L2.PS.imp {X : Cx} {e : Stmt} {t t' : TS} (h : PS X e t) (k : ∀ D σ H, t' D σ H → t D σ H) : PS X e t' := ⟨fun pins s σ H D I q => h.run pins s σ H D I (k D σ H q)⟩
theorem _root_.L2.PSs.imp {X : Cx} {e : List Stmt} {t t' : TS} (h : PSs X e t) (k : ∀ D σ H, t' D σ H → t D σ H) : PSs X e t' := ⟨fun pins s σ H D I q => h.run pins s σ H D I (k D σ H q)⟩
theorem _root_.L2.PG.imp {X : Cx} {e : Expr} {t t' : TG} (h : PG X e t) (k : ∀ v σ H Q, t' v σ H Q → t v σ H Q) : PG X e t' := by
  refine ⟨?_⟩
  intro pins s σ H v u Q I r q
  exact h.run pins s σ H v u Q I r (k v σ H Q q)

/-- the state at a part: cells, locals -/
structure At (ca : Nat → Addr) (φ : List Addr) (G H : Hp) (O T : Cs) (σ : St) (ρ : Rho) : Prop where
  s : Sd ca φ G H (O ++ T)
  l : Lo G φ σ ρ
  n : σ.length = ρ.length
def RE (ca : Nat → Addr) (C : Cn) (c : CE) : TE := fun σ H Q => ∃ φ G O ρ T, At ca φ G H O T σ ρ ∧ Pc ca rU φ G O (den C O ρ c T) Q
def RT (ca : Nat → Addr) (C : Cn) (c : CE) : TT := fun σ H Q => ∃ φ G O ρ T, At ca φ G H O T σ ρ ∧ Pc ca rB φ G O (tst (den C O ρ c T)) Q
def RA (ca : Nat → Addr) (C : Cn) (c : CA) : TA := fun σ H Q => ∃ φ G O ρ T, At ca φ G H O T σ ρ ∧ Pc ca rUs φ G O (denA C O ρ c T) Q
/-- operations on values -/
def rOp2 (ca : Nat → Addr) (f : Cs → U → U → Cs → R U) : R2 := fun x y H Q => ∃ φ G O T u w, Sd ca φ G H (O ++ T) ∧ RpU G φ x u ∧ RpU G φ y w ∧ Pc ca rU φ G O (f O u w T) Q
def rOp1 (ca : Nat → Addr) (f : Cs → U → Cs → R U) : V → Hp → VK → Prop := fun x H Q => ∃ φ G O T u, Sd ca φ G H (O ++ T) ∧ RpU G φ x u ∧ Pc ca rU φ G O (f O u T) Q
def rOpA (ca : Nat → Addr) (f : Cs → List U → Cs → R U) : List V → Hp → VK → Prop := fun xs H Q => ∃ φ G O T us, Sd ca φ G H (O ++ T) ∧ RpUs G φ xs us ∧ Pc ca rU φ G O (f O us T) Q
def rOpM (ca : Nat → Addr) (f : Cs → U → List U → Cs → R U) : V → List V → Hp → VK → Prop := fun x xs H Q => ∃ φ G O T u us, Sd ca φ G H (O ++ T) ∧ RpU G φ x u ∧ RpUs G φ xs us ∧ Pc ca rU φ G O (f O u us T) Q
variable {X : Cx} {C : Cn} {a b e : Expr} {ea eb ec : CE} {pos : Pos}
/-- two parts, then an operation -/
theorem to_op2 {f : Cs → U → U → Cs → R U} {c : CE} (hc : ∀ O ρ T, den C O ρ c T = (den C O ρ ea T).bind fun x T => (den C O ρ eb T).bind fun y T => f O x y T) :
    ∀ σ H Q, RE ca C c σ H Q → tOp (rOp2 ca f) (RE ca C ea) (RE ca C eb) σ H Q := by
  rintro σ H Q ⟨φ, G, O, ρ, T, t, h⟩
  rw [hc] at h
  refine ⟨φ, G, O, ρ, T, t, Pc.imp h.bind ?_⟩
  rintro x H1 ⟨φ1, G1, T1, u, f1, s1, r1, h1⟩
  refine ⟨φ1, G1, O, ρ, T1, ⟨s1, f1.lo t.l, t.n⟩, Pc.imp h1.bind ?_⟩
  rintro y H2 ⟨φ2, G2, T2, w, f2, s2, r2, h2⟩
  exact ⟨φ2, G2, O, T2, u, w, s2, f2.u r1, r2, h2⟩
theorem to_op1 {f : Cs → U → Cs → R U} {c : CE} (hc : ∀ O ρ T, den C O ρ c T = (den C O ρ ea T).bind fun x T => f O x T) :
    ∀ σ H Q, RE ca C c σ H Q → tUn (rOp1 ca f) (RE ca C ea) σ H Q := by
  rintro σ H Q ⟨φ, G, O, ρ, T, t, h⟩
  rw [hc] at h
  refine ⟨φ, G, O, ρ, T, t, Pc.imp h.bind ?_⟩
  rintro x H1 ⟨φ1, G1, T1, u, f1, s1, r1, h1⟩
  exact ⟨φ1, G1, O, T1, u, s1, r1, h1⟩
theorem to_opA {f : Cs → List U → Cs → R U} {c : CE} {as : CA} (hc : ∀ O ρ T, den C O ρ c T = (denA C O ρ as T).bind fun x T => f O x T) :
    ∀ σ H Q, RE ca C c σ H Q → tCB (rOpA ca f) (RA ca C as) σ H Q := by
  rintro σ H Q ⟨φ, G, O, ρ, T, t, h⟩
  rw [hc] at h
  refine ⟨φ, G, O, ρ, T, t, Pc.imp h.bind ?_⟩
  rintro x H1 ⟨φ1, G1, T1, u, f1, s1, r1, h1⟩
  exact ⟨φ1, G1, O, T1, u, s1, r1, h1⟩
theorem pa_nil' : PA X [] (RA ca C .nil) := pa_nil.imp fun σ H Q => by
  rintro ⟨φ, G, O, ρ, T, t, h⟩
  exact Pc.now h t.s .nil
theorem pa_cons' {es : List Expr} {as : CA} (ha : PE X a (RE ca C ea)) (hr : PA X es (RA ca C as)) (hs : starEach (a :: es) X.env = (false, eval a X.env) :: starEach es X.env) : PA X (a :: es) (RA ca C (.cons ea as)) := by
  refine (pa_cons ha hr hs).imp ?_
  rintro σ H Q ⟨φ, G, O, ρ, T, t, h⟩
  rw [denA] at h
  refine ⟨φ, G, O, ρ, T, t, Pc.imp h.bind ?_⟩
  rintro x H1 ⟨φ1, G1, T1, u, f1, s1, r1, h1⟩
  refine ⟨φ1, G1, O, ρ, T1, ⟨s1, f1.lo t.l, t.n⟩, Pc.imp h1.bind ?_⟩
  rintro y H2 ⟨φ2, G2, T2, w, f2, s2, r2, h2⟩
  exact Pc.now h2 s2 (.cons (f2.u r1) r2)
theorem pe_v {i : Nat} {x : Str} (hN : X.N[i]? = some x) (hv : Vis X.env.scope x) (hd : (x == ("__debug__" : Str)) = false) (hcd : (x == ("__classdict__" : Str)) = false) : PE X (.Name x pos) (RE ca C (.v i)) := by
  refine PE.imp (pe_var hN hv hd hcd) ?_
  rintro σ H Q ⟨φ, G, O, ρ, T, t, h⟩
  rw [den] at h
  cases hi : ρ[i]? with
  | none => rw [hi] at h; exact h.elim
  | some o =>
    cases o with
    | none => rw [hi] at h; exact h.elim
    | some u =>
      rw [hi] at h
      obtain ⟨v, h1, h2⟩ := t.l i u hi
      exact ⟨v, h1, Pc.now h t.s h2⟩
theorem pe_c {x : D} {v : V} (hv : ∀ G, Rp G v x) (he : PE X e (tC v)) : PE X e (RE ca C (.c x)) := he.imp fun σ H Q => by
  rintro ⟨φ, G, O, ρ, T, t, h⟩
  exact Pc.now h t.s (.d (hv G))
theorem pe_bin {o : Op} {op : Operator} {l : Bool} (ho : OpR X (binaryOp op) (rOp2 ca fun O x y T => binU O l o x y T)) (ha : PE X a (RE ca C ea)) (hb : PE X b (RE ca C eb)) : PE X (.BinOp a op b pos) (RE ca C (.bin l o ea eb)) :=
  (pe_op ho ha hb).imp (to_op2 fun _ _ _ => by rw [den])
/-- a comparison's answer -/
def cmpR (o : COp) : Cs → U → U → Cs → R U := fun O x y T => match cmpU O o x y T with
  | some k => .ok (.d (.bool k)) T
  | none => .fail
theorem pe_cm {o : COp} {op : CmpOp} (ho : OpR X (compareOp op) (rOp2 ca (cmpR o))) (ha : PE X a (RE ca C ea)) (hb : PE X b (RE ca C eb)) (hm : behindInMarks op b = false) : PE X (.Compare a [op] [b] pos) (RE ca C (.cmp o ea eb)) :=
  (pe_cmpR ho ha hb hm).imp (to_op2 fun _ _ _ => by rw [den] <;> rfl)
theorem asB_bl {G : Hp} {v : V} {u : U} {k : Bool} (e : asB u = some k) (r : RpU G φ v u) : v = .bl k := by
  unfold asB at e
  split at e
  · cases e
    cases r with
    | d r => cases r; rfl
  · cases e
theorem asB_of {u : U} {k : Bool} (e : asB u = some k) : u = .d (.bool k) := by
  unfold asB at e
  split at e
  · cases e; rfl
  · cases e
theorem Pc.tst {r : R U} {Q : Bool → Hp → Prop} (h : Pc ca rB φ G O (Y.tst r) Q) : Pc ca rU φ G O r (fun v H' => ∃ k, v = .bl k ∧ Q k H') := by
  cases r with
  | ok u T =>
    intro v φ2 G2 H2 f2 s r
    have h : Pc ca rB φ G O (R.ofO T (asB u)) Q := h
    cases e : asB u with
    | none => rw [e] at h; exact h.elim
    | some k =>
      rw [e] at h
      exact ⟨k, asB_bl e r, h k φ2 G2 H2 f2 s rfl⟩
  | exc => exact h
  | fail => exact h
/-- a test by the value -/
theorem to_tst {c : CE} : ∀ σ H Q, RT ca C c σ H Q → tTest (RE ca C c) σ H Q := by
  rintro σ H Q ⟨φ, G, O, ρ, T, t, h⟩
  exact ⟨φ, G, O, ρ, T, t, h.tst⟩
theorem pt_e {c : CE} (h : PE X e (RE ca C c)) (he : ∀ whole, isTrue e X.env whole = (do let v ← whole; standAt e.pos; holding [v] (truthy v))) : PT X e (RT ca C c) :=
  (pt_val h he).imp to_tst
theorem pt_cm {o : COp} {op : CmpOp} (ho : OpR X (compareOp op) (rOp2 ca (cmpR o))) (ha : PE X a (RE ca C ea)) (hb : PE X b (RE ca C eb)) (hm : behindInMarks op b = false) : PT X (.Compare a [op] [b] pos) (RT ca C (.cmp o ea eb)) :=
  (pt_cmpR ho ha hb hm).imp fun σ H Q h => by
    obtain ⟨φ, G, O, ρ, T, t, h⟩ := to_tst σ H Q h
    exact to_op2 (fun _ _ _ => by rw [den] <;> rfl) σ H _ ⟨φ, G, O, ρ, T, t, h⟩
/-- two comparisons -/
theorem to_chain {o o' : COp} : ∀ σ H Q, RE ca C (.chain o o' ea eb ec) σ H Q → tChain (rOp2 ca (cmpR o)) (rOp2 ca (cmpR o')) (RE ca C ea) (RE ca C eb) (RE ca C ec) σ H Q := by
  rintro σ H Q ⟨φ, G, O, ρ, T, t, h⟩
  rw [den] at h
  refine ⟨φ, G, O, ρ, T, t, Pc.imp h.bind ?_⟩
  rintro x H1 ⟨φ1, G1, T1, u, f1, s1, r1, h1⟩
  refine ⟨φ1, G1, O, ρ, T1, ⟨s1, f1.lo t.l, t.n⟩, Pc.imp h1.bind ?_⟩
  rintro y H2 ⟨φ2, G2, T2, w, f2, s2, r2, h2⟩
  refine ⟨φ2, G2, O, T2, u, w, s2, f2.u r1, r2, ?_⟩
  unfold cmpR
  cases e : cmpU O o u w T2 with
  | none => rw [e] at h2; exact h2
  | some k =>
    rw [e] at h2
    intro v φ3 G3 H3 f3 s3 r3
    cases r3 with
    | d r3 =>
      cases r3
      refine ⟨k, rfl, ?_⟩
      cases k with
      | false => exact Pc.now (h2.later f3) s3 (.d (.bl _))
      | true =>
        rw [if_pos rfl]
        refine ⟨φ3, G3, O, ρ, T2, ⟨s3, (f1.trans (f2.trans f3)).lo t.l, t.n⟩, Pc.imp (h2.later f3).bind ?_⟩
        rintro z H4 ⟨φ4, G4, T4, w4, f4, s4, r4, h4⟩
        exact ⟨φ4, G4, O, T4, w, w4, s4, (f3.trans f4).u r2, r4, h4⟩
theorem pe_ch {o o' : COp} {op op' : CmpOp} (ho : OpR X (compareOp op) (rOp2 ca (cmpR o))) (ho' : OpR X (compareOp op') (rOp2 ca (cmpR o'))) (ha : PE X a (RE ca C ea)) (hb : PE X b (RE ca C eb)) (he : PE X e (RE ca C ec)) (hm : lastMarks [op, op'] [b, e] = false) :
    PE X (.Compare a [op, op'] [b, e] pos) (RE ca C (.chain o o' ea eb ec)) := (pe_chain ho ho' ha hb he hm).imp to_chain
theorem pt_ch {o o' : COp} {op op' : CmpOp} (ho : OpR X (compareOp op) (rOp2 ca (cmpR o))) (ho' : OpR X (compareOp op') (rOp2 ca (cmpR o'))) (ha : PE X a (RE ca C ea)) (hb : PE X b (RE ca C eb)) (he : PE X e (RE ca C ec)) (hm : lastMarks [op, op'] [b, e] = false) :
    PT X (.Compare a [op, op'] [b, e] pos) (RT ca C (.chain o o' ea eb ec)) := (pt_chain ho ho' ha hb he hm).imp fun σ H Q h => by
    obtain ⟨φ, G, O, ρ, T, t, h⟩ := to_tst σ H Q h
    exact to_chain σ H _ ⟨φ, G, O, ρ, T, t, h⟩
/-- a test, then one of two -/
theorem Pc.br {δ : Type} {rel2 : Hp → List Addr → δ → γ → Prop} {Q : δ → Hp → Prop} {r : R U} {k : Bool → Cs → R γ} (h : Pc ca rel2 φ G O (r.bind fun x T => brB (asB x) (k true T) (k false T)) Q) :
    Pc ca rB φ G O (Y.tst r) (fun b H' => Mid ca rB φ G O b H' fun a T' φ' G' => Pc ca rel2 φ' G' O (k a T') Q) := by
  cases r with
  | ok u T =>
    have h : Pc ca rel2 φ G O (brB (asB u) (k true T) (k false T)) Q := h
    show Pc ca rB φ G O (R.ofO T (asB u)) _
    cases e : asB u with
    | none => rw [e] at h; exact h
    | some b =>
      rw [e] at h
      intro b' φ2 G2 H2 f2 s r
      have r : b' = b := r
      subst r
      refine ⟨φ2, G2, T, b', f2, s, rfl, ?_⟩
      cases b' <;> exact h.later f2
  | exc => exact h
  | fail => exact h
theorem Pc.keepBr {δ : Type} {rel2 : Hp → List Addr → δ → γ → Prop} {Q : δ → Hp → Prop} {φ1 : List Addr} {G1 : Hp} {r : R U} {k : Bool → Cs → R γ} (h : Pc ca rel2 φ1 G1 O (r.bind fun x T => brB (asB x) (k true T) (k false T)) Q) :
    Pc ca rB φ G O (Y.tst r) (fun b H' => Mid ca rB φ G O b H' fun a T' φ' G' => Pc ca rel2 φ1 G1 O (k a T') Q) := by
  cases r with
  | ok u T =>
    have h : Pc ca rel2 φ1 G1 O (brB (asB u) (k true T) (k false T)) Q := h
    show Pc ca rB φ G O (R.ofO T (asB u)) _
    cases e : asB u with
    | none => rw [e] at h; exact h
    | some b =>
      rw [e] at h
      intro b' φ2 G2 H2 f2 s r
      have r : b' = b := r
      subst r
      refine ⟨φ2, G2, T, b', f2, s, rfl, ?_⟩
      cases b' <;> exact h
  | exc => exact h
  | fail => exact h
theorem to_and : ∀ σ H Q, RE ca C (.and ea eb) σ H Q → tAndV (RE ca C ea) (RE ca C eb) σ H Q := by
  rintro σ H Q ⟨φ, G, O, ρ, T, t, h⟩
  rw [den] at h
  refine ⟨φ, G, O, ρ, T, t, Pc.imp (Pc.tst (Pc.br (k := fun b T => if b = true then den C O ρ eb T else .ok (.d (.bool false)) T) h)) ?_⟩
  rintro x H1 ⟨k, rfl, φ1, G1, T1, u, f1, s1, r1, h1⟩
  have r1 : k = u := r1
  subst r1
  refine ⟨k, rfl, ?_⟩
  cases k with
  | true => exact ⟨φ1, G1, O, ρ, T1, ⟨s1, f1.lo t.l, t.n⟩, h1⟩
  | false => exact Pc.now h1 s1 (.d (.bl _))
theorem to_or : ∀ σ H Q, RE ca C (.or ea eb) σ H Q → tOrV (RE ca C ea) (RE ca C eb) σ H Q := by
  rintro σ H Q ⟨φ, G, O, ρ, T, t, h⟩
  rw [den] at h
  refine ⟨φ, G, O, ρ, T, t, Pc.imp (Pc.tst (Pc.br (k := fun b T => if b = true then .ok (.d (.bool true)) T else den C O ρ eb T) h)) ?_⟩
  rintro x H1 ⟨k, rfl, φ1, G1, T1, u, f1, s1, r1, h1⟩
  have r1 : k = u := r1
  subst r1
  refine ⟨k, rfl, ?_⟩
  cases k with
  | false => exact ⟨φ1, G1, O, ρ, T1, ⟨s1, f1.lo t.l, t.n⟩, h1⟩
  | true => exact Pc.now h1 s1 (.d (.bl _))
theorem to_not : ∀ σ H Q, RE ca C (.not ea) σ H Q → tNotV (RE ca C ea) σ H Q := by
  rintro σ H Q ⟨φ, G, O, ρ, T, t, h⟩
  rw [den] at h
  have h' : Pc ca rU φ G O ((den C O ρ ea T).bind fun x T => brB (asB x) (.ok (.d (.bool false)) T) (.ok (.d (.bool true)) T)) Q := by
    cases e : den C O ρ ea T with
    | ok u T =>
      rw [e] at h
      show Pc ca rU φ G O (brB (asB u) (.ok (.d (.bool false)) T) (.ok (.d (.bool true)) T)) Q
      have h : Pc ca rU φ G O (match asB u with | some b => .ok (.d (.bool (!b))) T | none => .fail) Q := h
      cases e : asB u with
      | none => rw [e] at h; exact h
      | some b => rw [e] at h; cases b <;> exact h
    | exc => rw [e] at h; exact h
    | fail => rw [e] at h; exact h
  refine ⟨φ, G, O, ρ, T, t, Pc.imp (Pc.tst (Pc.br (k := fun b T => (.ok (.d (.bool (!b))) T : R U)) h')) ?_⟩
  rintro x H1 ⟨k, rfl, φ1, G1, T1, u, f1, s1, r1, h1⟩
  have r1 : k = u := r1
  subst r1
  exact ⟨k, rfl, Pc.now h1 s1 (.d (.bl _))⟩
theorem tst_bind {r : R U} {k : U → Cs → R U} : tst (r.bind k) = r.bind fun u T => tst (k u T) := by cases r <;> rfl
theorem tst_br {x : Option Bool} {p q : R U} : tst (brB x p q) = brB x (tst p) (tst q) := by
  cases x with
  | none => rfl
  | some b => cases b <;> rfl
theorem to_andT : ∀ σ H Q, RT ca C (.and ea eb) σ H Q → tAnd (RT ca C ea) (RT ca C eb) σ H Q := by
  rintro σ H Q ⟨φ, G, O, ρ, T, t, h⟩
  rw [den, tst_bind] at h
  simp only [tst_br] at h
  refine ⟨φ, G, O, ρ, T, t, Pc.imp (Pc.br (k := fun b T => if b = true then tst (den C O ρ eb T) else tst (.ok (.d (.bool false)) T)) h) ?_⟩
  rintro k H1 ⟨φ1, G1, T1, u, f1, s1, r1, h1⟩
  have r1 : k = u := r1
  subst r1
  cases k with
  | true => exact ⟨φ1, G1, O, ρ, T1, ⟨s1, f1.lo t.l, t.n⟩, h1⟩
  | false => exact Pc.now (a := false) h1 s1 rfl
theorem to_orT : ∀ σ H Q, RT ca C (.or ea eb) σ H Q → tOr (RT ca C ea) (RT ca C eb) σ H Q := by
  rintro σ H Q ⟨φ, G, O, ρ, T, t, h⟩
  rw [den, tst_bind] at h
  simp only [tst_br] at h
  refine ⟨φ, G, O, ρ, T, t, Pc.imp (Pc.br (k := fun b T => if b = true then tst (.ok (.d (.bool true)) T) else tst (den C O ρ eb T)) h) ?_⟩
  rintro k H1 ⟨φ1, G1, T1, u, f1, s1, r1, h1⟩
  have r1 : k = u := r1
  subst r1
  cases k with
  | false => exact ⟨φ1, G1, O, ρ, T1, ⟨s1, f1.lo t.l, t.n⟩, h1⟩
  | true => exact Pc.now (a := true) h1 s1 rfl
theorem to_notT : ∀ σ H Q, RT ca C (.not ea) σ H Q → tNot (RT ca C ea) σ H Q := by
  rintro σ H Q ⟨φ, G, O, ρ, T, t, h⟩
  rw [den, tst_bind] at h
  have h' : Pc ca rB φ G O ((den C O ρ ea T).bind fun x T => brB (asB x) (.ok false T) (.ok true T)) Q := by
    cases e : den C O ρ ea T with
    | ok u T =>
      rw [e] at h
      show Pc ca rB φ G O (brB (asB u) (.ok false T) (.ok true T)) Q
      have h : Pc ca rB φ G O (tst (match asB u with | some b => .ok (.d (.bool (!b))) T | none => .fail)) Q := h
      cases e : asB u with
      | none => rw [e] at h; exact h
      | some b => rw [e] at h; cases b <;> exact h
    | exc => rw [e] at h; exact h
    | fail => rw [e] at h; exact h
  refine ⟨φ, G, O, ρ, T, t, Pc.imp (Pc.br (k := fun b T => (.ok (!b) T : R Bool)) h') ?_⟩
  rintro k H1 ⟨φ1, G1, T1, u, f1, s1, r1, h1⟩
  have r1 : k = u := r1
  subst r1
  exact Pc.now h1 s1 rfl
theorem to_ite {et : CE} : ∀ σ H Q, RE ca C (.ite et ea eb) σ H Q → tIf (RT ca C et) (RE ca C ea) (RE ca C eb) σ H Q := by
  rintro σ H Q ⟨φ, G, O, ρ, T, t, h⟩
  rw [den] at h
  refine ⟨φ, G, O, ρ, T, t, Pc.imp (Pc.br (k := fun b T => if b = true then den C O ρ ea T else den C O ρ eb T) h) ?_⟩
  rintro k H1 ⟨φ1, G1, T1, u, f1, s1, r1, h1⟩
  have r1 : k = u := r1
  subst r1
  cases k with
  | true => exact ⟨φ1, G1, O, ρ, T1, ⟨s1, f1.lo t.l, t.n⟩, h1⟩
  | false => exact ⟨φ1, G1, O, ρ, T1, ⟨s1, f1.lo t.l, t.n⟩, h1⟩
theorem sizeOk_le {n : Nat} (h : sizeOk n = true) : n ≤ 1000000 := of_decide_eq_true h
theorem sz_le {n : Nat} (h : n ≤ 1000000) : n ≤ sizeLine := Nat.le_trans h (by decide)
theorem sz_lt {n : Nat} (h : n ≤ 1000000) : n < sizeLine := Nat.lt_of_le_of_lt h (by decide)
/-- a new tuple at p -/
theorem mkT_ok {vs : List V} {us : List U} {T : Cs} {p : Addr} {Q : VK} (h : Pc ca rU φ G O (.ok (mkT us) T) Q) (s : Sd ca φ G H (O ++ T)) (r : RpUs G φ vs us) (np : H p = none) : Q (.ref p) (upd H p (.tup vs)) := by
  have f : Fut φ G φ (upd G p (.tup vs)) := s.knowF np
  refine h (.ref p) φ _ _ f (s.know np) ?_
  show RpU _ _ _ (mkT us)
  unfold mkT
  cases e : allD us with
  | none => exact .tup upd_same (f.us r)
  | some ds => exact .d (.tup upd_same ((f.us r).down e))
/-- a new list at p -/
theorem mkL_ok {l : Bool} {vs : List V} {us : List U} {T : Cs} {p : Addr} {Q : VK} (h : Pc ca rU φ G O (mkL O l us T) Q) (s : Sd ca φ G H (O ++ T)) (r : RpUs G φ vs us) (np : H p = none) : Q (.ref p) (upd H p (.lst vs)) := by
  unfold mkL at h
  cases l with
  | true =>
    rw [if_pos rfl] at h
    have c : CellOk ca G (φ ++ [p]) (upd H p (.lst vs)) p (cellOf us) := by
      unfold cellOf
      cases e : allD us with
      | none => exact ⟨vs, upd_same, Sd.newF.us r⟩
      | some ds => exact ⟨vs, upd_same, r.down e⟩
    have s' := s.cellNew np c
    rw [List.append_assoc] at s'
    refine h (.ref p) (φ ++ [p]) G _ Sd.newF s' (.ref ?_)
    have e := s.len
    rw [List.length_append] at e
    rw [← e]
    simp
  | false =>
    rw [if_neg Bool.false_ne_true] at h
    cases e : allD us with
    | none => rw [e] at h; exact h.elim
    | some ds =>
      rw [e] at h
      have f : Fut φ G φ (upd G p (.lst vs)) := s.knowF np
      exact h (.ref p) φ _ _ f (s.know np) (.d (.lst (.inl upd_same) ((f.us r).down e)))
theorem pe_tu {es : List Expr} {as : CA} {k : Nat} (h : PA X es (RA ca C as)) : PE X (.Tuple es k pos) (RE ca C (.tup as)) := (pe_tup h).imp (by
  rintro σ H Q ⟨φ, G, O, ρ, T, t, h⟩
  rw [den] at h
  refine ⟨φ, G, O, ρ, T, t, Pc.imp h.bind ?_⟩
  rintro x H1 ⟨φ1, G1, T1, u, f1, s1, r1, h1⟩
  split at h1
  · rename_i hz
    refine ⟨sz_le (by rw [RpUs.length r1]; exact sizeOk_le hz), fun p np => mkT_ok h1 s1 r1 np⟩
  · exact h1.elim)
theorem pe_li {es : List Expr} {as : CA} {l : Bool} (h : PA X es (RA ca C as)) : PE X (.List es pos) (RE ca C (.lst l as)) := (pe_lst h).imp (by
  rintro σ H Q ⟨φ, G, O, ρ, T, t, h⟩
  rw [den] at h
  refine ⟨φ, G, O, ρ, T, t, Pc.imp h.bind ?_⟩
  rintro x H1 ⟨φ1, G1, T1, u, f1, s1, r1, h1⟩
  split at h1
  · rename_i hz
    refine ⟨sz_le (by rw [RpUs.length r1]; exact sizeOk_le hz), fun p np => mkL_ok h1 s1 r1 np⟩
  · exact h1.elim)
theorem pe_sub {ix : CE} (hi : IxR X (rOp2 ca fun O x y T => R.ofO T (ixU O x y T))) (ha : PE X a (RE ca C ea)) (hb : PE X b (RE ca C eb)) (hs : PlainIx b) : PE X (.Subscript a b pos) (RE ca C (.ix ea eb)) :=
  (pe_ix hi ha hb hs).imp (to_op2 fun _ _ _ => by rw [den])
end
theorem tuple_mul1 (l : Addr) (items : Array Value) (n : Nat) (dd : Option Addr) (sl : Array (Option Value)) (u : Tok) :
    Meets (Builtin.«tuple.__mul__» ⟨[.ref l, .int 1 u], []⟩) (fun _ R s => s.heap.get? l = some { cls := .type "tuple", dict := dd, data := .seq items n, slots := sl } ∧ R (.ok (.ret (Value.ref l))) s) :=
  .of_wp fun prog w A R s h => by
    obtain ⟨hp, g, d, tk, os⟩ := s
    obtain ⟨hl, h⟩ := h
    have f1 := AutoSeq1.idx_int
    have c0 : (decide ((1 : Int) < -(2 ^ 63)) || decide ((1 : Int) ≥ 2 ^ 63)) = false := by decide +kernel
    have c1 : (items.isEmpty || (1 : Int) == 1) = true := by simp
    wp_walk using wpAny_loadPart' hl
    repeat (first
      | (refine wpAny_ite_false (decide_eq_false (by rw [c0]; exact Bool.false_ne_true)) ?_; wp_walk using wpAny_loadPart' hl)
      | (refine wpAny_ite_true (decide_eq_true (by rw [c1])) ?_; wp_walk using wpAny_loadPart' hl))
    exact ⟨_, rfl, h⟩
def rRep1 (K : PySem.W.Frag) : R2 := fun x y H Q => ∃ l xs, x = .ref l ∧ y = .int 1 ∧ SqT K H l xs ∧ Q (.ref l) H
theorem op_rep1 {X : Cx} : OpR X (binaryOp .Mult) (rRep1 X.K) := by
  intro pins s σ H x y v u Q I rx ry h
  obtain ⟨l, xs, rfl, rfl, hT, q⟩ := h
  cases rx
  obtain ⟨t, rfl⟩ := ry
  obtain ⟨its, r, ⟨⟨cls, dd, data, sl⟩, ho, hc, n, hd⟩, hs⟩ := I.tuple hT
  simp only at hc hd
  subst hc hd
  refine wpAny_binaryOp_repeat_ref (T := "tuple") (U := "int") (by decide) ⟨_, ho, rfl⟩ (fun s' => typeIs_int s' 1 t) noFill_tuple_mul F.fills_int_mul F.slot_int_rmul repeat_tuple F.slot_int_index.lookup
    (call_meets F.slot_int_rmul (typeIs_int s 1 t) F.entry_int_rmul (F.args_int_rmul_2 _ _) (int_rmul_tuple 1 t l its.toArray n dd sl)
      ⟨ho, rfl, ⟨_, ho, rfl⟩, call_meets F.slot_tuple_mul ⟨_, ho, rfl⟩ F.entry_tuple_mul (F.args_tuple_mul_2 _ _) (tuple_mul1 l its.toArray n dd sl t) ⟨ho, ?_⟩⟩)
  exact ⟨.ref l, _, I, rfl, q⟩
end Y

set_option Elab.async false
set_option linter.all false
set_option maxRecDepth 100000
set_option maxHeartbeats 1000000
namespace Y
section
open PySem PySem.Spec PyProof.Rows L2
variable {X : Cx} {pins : List (Addr × Obj)} {σ : L2.St} {H : Hp} {s : Shared} {l : Addr} {xs : List V}
theorem lstR (I : Inv X pins σ H s) (hH : Rd H l (.lst xs)) : xs.length ≤ sizeLine ∧ ∃ (its : List Value) (n : Nat), Vals xs its ∧ xs.length = its.length ∧ s.heap.get? l = some { cls := .type "list", data := .seq its.toArray n } := by
  obtain ⟨z, its, n, r, e⟩ := hH.ok I.hok
  exact ⟨z, its, n, r, r.length, e⟩
def rCatR : R2 := fun x y H Q => ∃ l b xs zs, x = .ref l ∧ y = .ref b ∧ Rd H l (.lst xs) ∧ Rd H b (.lst zs) ∧ xs.length + zs.length ≤ sizeLine ∧ ∀ p, H p = none → Q (.ref p) (upd H p (.lst (xs ++ zs)))
def rRepR : R2 := fun x y H Q => ∃ l k xs, x = .ref l ∧ y = .int k ∧ Rd H l (.lst xs) ∧ -(2 ^ 63) ≤ k ∧ k < 2 ^ 63 ∧ xs.length * k.toNat ≤ sizeLine ∧
  ∀ p, H p = none → Q (.ref p) (upd H p (.lst (List.replicate k.toNat xs).flatten))
def rExtendR : V → List V → Hp → VK → Prop := fun x vs H Q => ∃ l b xs zs, x = .ref l ∧ vs = [.ref b] ∧ H l = some (.lst xs) ∧ Rd H b (.lst zs) ∧ xs.length + zs.length ≤ sizeLine ∧ Q .non (upd H l (.lst (xs ++ zs)))
theorem op_catR : OpR X (binaryOp .Add) rCatR := by
  intro pins s σ H x y v u Q I rx ry h
  obtain ⟨l, b, xs, zs, rfl, rfl, hH, hB, hz, q⟩ := h
  cases rx
  cases ry
  obtain ⟨z, its, n, r, hl, e⟩ := lstR I hH
  obtain ⟨z2, its2, n2, r2, hl2, e2⟩ := lstR I hB
  refine PySem.P.add_list e e2 ?_ (by rw [List.size_toArray, List.size_toArray]; omega)
  have ea : its.toArray ++ its2.toArray = (its ++ its2).toArray := by simp
  rw [ea]
  exact ⟨.ref _, _, I.lnew (t' := s.toks) (r.append r2) (by rw [List.length_append]; omega), rfl, q _ I.fresh⟩
theorem op_repR : OpR X (binaryOp .Mult) rRepR := by
  intro pins s σ H x y v u Q I rx ry h
  obtain ⟨l, k, xs, rfl, rfl, hH, h1, h2, hz, q⟩ := h
  cases rx
  obtain ⟨t, rfl⟩ := ry
  obtain ⟨z, its, n, r, hl, e⟩ := lstR I hH
  have hlen : its.toArray.size * k.toNat ≤ sizeLine := by rw [List.size_toArray, ← hl]; exact hz
  have hcap : ¬ its.toArray.size * k.toNat > (2 ^ 63 - 1) / 8 := by
    have : (sizeLine : Nat) ≤ (2 ^ 63 - 1) / 8 := by decide
    omega
  have hfit : ¬ (!Builtin.List.listFitsIndex k) = true := by
    rw [fitsIndex_both h1 h2]
    exact Bool.false_ne_true
  have hlong : ¬ Builtin.List.listTooLong (its.toArray.size * k.toNat) = true := by
    rw [notLongL hlen]
    exact Bool.false_ne_true
  have hnew : List.foldl (fun x1 x2 => x1 ++ x2) #[] (List.replicate (if its.toArray.isEmpty = true then 0 else k.toNat) its.toArray) = (List.replicate k.toNat its).flatten.toArray := by
    have f0 : ∀ m : Nat, List.foldl (fun x1 x2 => x1 ++ x2) #[] (List.replicate m its.toArray) = (List.replicate m its).flatten.toArray := fun m => by
      have := foldl_rep its m []
      rw [List.nil_append] at this
      exact this
    rw [f0]
    cases its with
    | nil => simp
    | cons a r' => rw [if_neg (by simp)]
  refine wpAny_binaryOp_repeat_ref (T := "list") (U := "int") (by decide) ⟨_, e, rfl⟩ (fun s' => typeIs_int s' k t) noFill_list_mul F.fills_int_mul F.slot_int_rmul repeat_list F.slot_int_index.lookup
    (call_meets F.slot_int_rmul (typeIs_int s k t) F.entry_int_rmul (F.args_int_rmul_2 _ _) (int___rmul___int_list k t l its.toArray n)
      ⟨e, rfl, ⟨_, e, rfl⟩, call_meets F.slot_list_mul ⟨_, e, rfl⟩ F.entry_list_mul (F.args_list_mul_2 _ _) (AutoListH.list___mul___list_int_3 l its.toArray n k t hfit hcap hlong) ⟨e, ?_⟩⟩)
  rw [hnew]
  exact ⟨.ref _, _, I.lnew (t' := s.toks) (r.rep k.toNat) (by rw [PyProof.Rows.lm_len_rep_flat, Nat.mul_comm]; exact hz), rfl, q _ I.fresh⟩
theorem mt_extendR : MtM X "list.extend" rExtendR := by
  intro pins s σ H x vs v us Q I rx rv h
  obtain ⟨l, b, xs, zs, rfl, rfl, hH, hB, hz, q⟩ := h
  cases rx
  obtain ⟨u, rfl, ru⟩ := rv.one
  cases ru
  obtain ⟨z, its, n, r, hl, e⟩ := I.lstM hH
  obtain ⟨z2, its2, n2, r2, hl2, e2⟩ := lstR I hB
  have hsz : its.toArray.size + its2.toArray.size ≤ sizeLine := by rw [List.size_toArray, List.size_toArray]; omega
  have hlong : ¬ (!its.toArray.isEmpty && Builtin.List.listTooLong (its.toArray.size + its2.toArray.size)) = true := by
    rw [notLongL hsz, Bool.and_false]
    exact Bool.false_ne_true
  refine call_meets F.slot_list_extend ⟨_, e, rfl⟩ F.entry_list_extend (F.args_list_extend_2 _ _)
    (AutoSeq1.list_extend_list_list_0 l its.toArray n b its2.toArray n2 hlong (by rw [List.size_toArray]; omega) (by omega)) ⟨e, e2, ?_⟩
  refine ⟨.non, _, I.lset (its' := its ++ its2) hH e (by simp) (r.append r2) ?_, rfl, q⟩
  rw [List.length_append]
  omega
end
open PySem PySem.Spec L2
section
variable {ca : Nat → Addr} {φ φ' : List Addr} {G G' H : Hp} {O T : Cs} {X : Cx} {K : PySem.W.Frag}
theorem cell_at (s : Sd ca φ G H (O ++ T)) {i : Nat} {a : Addr} {c : Cell} (hi : φ[i]? = some a) (e : getC O T i = some c) : CellOk ca G φ H a c := by
  rw [getC_eq] at e
  exact s.cell i a c hi e
theorem seqL_ok (s : Sd ca φ G H (O ++ T)) {u : U} {v : V} {us : List U} (r : RpU G φ v u) (e : seqL O T u = some us) : ∃ a vs, v = .ref a ∧ Rd H a (.lst vs) ∧ RpUs G φ vs us := by
  unfold seqL at e
  split at e
  · cases e
    cases r with
    | d r => cases r with | lst h1 h2 => exact ⟨_, _, rfl, s.ex.rd h1, h2.up⟩
  · cases r with
    | ref hi =>
      split at e
      · rename_i hc
        cases e
        obtain ⟨vs, h1, h2⟩ := cell_at s hi hc
        exact ⟨_, vs, rfl, .inl h1, h2.up⟩
      · rename_i hc
        cases e
        obtain ⟨vs, h1, h2⟩ := cell_at s hi hc
        exact ⟨_, vs, rfl, .inl h1, h2⟩
      · cases e
  · cases e
theorem seqT_okG {u : U} {v : V} {us : List U} (r : RpU G φ v u) (e : seqT u = some us) : ∃ a vs, v = .ref a ∧ G a = some (.tup vs) ∧ RpUs G φ vs us := by
  unfold seqT at e
  split at e
  · cases e
    cases r with
    | d r => cases r with | tup h1 h2 => exact ⟨_, _, rfl, h1, h2.up⟩
  · cases e
    cases r with
    | tup h1 h2 => exact ⟨_, _, rfl, h1, h2⟩
  · cases e
theorem seqT_ok (s : Sd ca φ G H (O ++ T)) {u : U} {v : V} {us : List U} (r : RpU G φ v u) (e : seqT u = some us) : ∃ a vs, v = .ref a ∧ H a = some (.tup vs) ∧ RpUs G φ vs us := by
  obtain ⟨a, vs, h1, h2, h3⟩ := seqT_okG r e
  exact ⟨a, vs, h1, s.ex _ _ h2, h3⟩
theorem mkT_rp {a : Addr} {vs : List V} {us : List U} (h : G a = some (.tup vs)) (r : RpUs G φ vs us) : RpU G φ (.ref a) (mkT us) := by
  unfold mkT
  cases e : allD us with
  | none => exact .tup h r
  | some ds => exact .d (.tup h (r.down e))
theorem seqA_ok (s : Sd ca φ G H (O ++ T)) {u : U} {v : V} {us : List U} (r : RpU G φ v u) (e : seqA O T u = some us) : ∃ a vs, v = .ref a ∧ (Rd H a (.lst vs) ∨ H a = some (.tup vs)) ∧ RpUs G φ vs us := by
  unfold seqA at e
  split at e
  · rename_i h
    cases e
    obtain ⟨a, vs, h1, h2, h3⟩ := seqL_ok s r h
    exact ⟨a, vs, h1, .inl h2, h3⟩
  · obtain ⟨a, vs, h1, h2, h3⟩ := seqT_ok s r e
    exact ⟨a, vs, h1, .inr h2, h3⟩
theorem rp_int {v : V} {i : Int} (r : RpU G φ v (.d (.int i))) : v = .int i := by cases r with | d r => cases r; rfl
theorem rp_str {v : V} {i : Str} (r : RpU G φ v (.d (.str i))) : v = .str i := by cases r with | d r => cases r; rfl
theorem rp_bl {v : V} {i : Bool} (r : RpU G φ v (.d (.bool i))) : v = .bl i := by cases r with | d r => cases r; rfl
theorem rp_non {v : V} (r : RpU G φ v (.d .none)) : v = .non := by cases r with | d r => cases r; rfl
def opS : Op → Operator
  | .add => .Add | .sub => .Sub | .mul => .Mult | .fdiv => .FloorDiv | .mod => .Mod | .pow => .Pow | .shl => .LShift | .shr => .RShift | .band => .BitAnd | .bor => .BitOr | .bxor => .BitXor
def rIntOp (o : Op) : R2 := fun x y H Q => ∃ i j k, x = .int i ∧ y = .int j ∧ binI o i j = some k ∧ Q (.int k) H
theorem big_log {j : Int} (h0 : 0 < j) (h : j < 1000000000000000000000000000000000000000000000000000000000000) : j.natAbs.log2 < 9000 := by
  have h1 : j.natAbs < 2 ^ 200 := by
    have : j.natAbs < 1000000000000000000000000000000000000000000000000000000000000 := by omega
    exact Nat.lt_trans this (by decide)
  have h2 : j.natAbs ≠ 0 := by omega
  have := (Nat.log2_lt h2).mpr h1
  omega
theorem op_int (o : Op) : OpR X (binaryOp (opS o)) (rIntOp o) := by
  rintro pins s σ H x y v u Q I rx ry ⟨i, j, k, rfl, rfl, e, q⟩
  cases o with
  | add => cases e; exact op_add pins s σ H _ _ v u Q I rx ry ⟨i, j, rfl, rfl, q⟩
  | sub => cases e; exact op_sub pins s σ H _ _ v u Q I rx ry ⟨i, j, rfl, rfl, q⟩
  | band => cases e; exact op_and pins s σ H _ _ v u Q I rx ry ⟨i, j, rfl, rfl, q⟩
  | bor => cases e; exact op_or pins s σ H _ _ v u Q I rx ry ⟨i, j, rfl, rfl, q⟩
  | bxor => cases e; exact op_xor pins s σ H _ _ v u Q I rx ry ⟨i, j, rfl, rfl, q⟩
  | mul =>
    simp only [binI] at e
    split at e
    · rename_i h
      cases e
      simp only [mulOk, Bool.or_eq_true, Bool.and_eq_true, decide_eq_true_eq] at h
      rcases h with h | h
      · refine op_mul pins s σ H _ _ v u Q I rx ry ⟨i, j, rfl, rfl, ?_, q⟩
        unfold CMul
        omega
      · refine op_mulX pins s σ H _ _ v u Q I rx ry ⟨i, j, rfl, rfl, ?_, q⟩
        unfold CMulX
        omega
    · cases e
  | fdiv =>
    simp only [binI] at e
    split at e
    · rename_i h
      cases e
      exact op_fdivW pins s σ H _ _ v u Q I rx ry ⟨i, j, rfl, rfl, ⟨h.1, big_log h.1 h.2⟩, q⟩
    · cases e
  | mod =>
    simp only [binI] at e
    split at e
    · rename_i h
      cases e
      exact op_mod pins s σ H _ _ v u Q I rx ry ⟨i, j, rfl, rfl, h, q⟩
    · cases e
  | pow =>
    simp only [binI] at e
    split at e
    · rename_i h
      cases e
      exact op_pow pins s σ H _ _ v u Q I rx ry ⟨i, j, rfl, rfl, ⟨h.1, by omega, by omega⟩, q⟩
    · cases e
  | shl =>
    simp only [binI] at e
    split at e
    · rename_i h
      cases e
      exact op_shl pins s σ H _ _ v u Q I rx ry ⟨i, j, rfl, rfl, ⟨h.1, by omega, by omega⟩, q⟩
    · cases e
  | shr =>
    simp only [binI] at e
    split at e
    · rename_i h
      cases e
      exact op_shr pins s σ H _ _ v u Q I rx ry ⟨i, j, rfl, rfl, h, q⟩
    · cases e
theorem foldl_size (xs : Array Nat) : ∀ (k : Nat) (acc : Array Nat), ((List.replicate k xs).foldl (fun x1 x2 => x1 ++ x2) acc).size = acc.size + k * xs.size
  | 0, acc => by simp
  | k + 1, acc => by
    rw [List.replicate_succ, List.foldl_cons, foldl_size xs k]
    simp [Nat.add_mul]
    omega
theorem op_rep0 : OpR X (binaryOp .Mult) (fun x y H Q => ∃ (a : Str), x = .str a ∧ y = .int 0 ∧ Q (.str (repS a 0)) H) := by
  rintro pins s σ H x y v w Q I rx ry ⟨a, rfl, rfl, q⟩
  obtain ⟨t, rfl⟩ := rx
  obtain ⟨u, rfl⟩ := ry
  refine PySem.P.mul_str ?_ ?_ ?_ ?_
  · decide
  · exact fun h => absurd (by decide) h
  · exact fun h => absurd (by decide) h
  · rw [if_pos (by decide)]
    exact ⟨by decide, ⟨V.str _, H, I.tok _, ⟨_, rfl⟩, q⟩⟩
theorem op_repS : OpR X (binaryOp .Mult) (fun x y H Q => ∃ (a : Str) (k : Int), x = .str a ∧ y = .int k ∧ 0 ≤ k ∧ k ≤ 1000 ∧ a.length ≤ 1000 ∧ 1 ≤ a.length ∧ Q (.str (repS a k.toNat)) H) := by
  rintro pins s σ H x y v w Q I rx ry ⟨a, k, rfl, rfl, h1, h2, h3, h4, q⟩
  by_cases h0 : k = 0
  · subst h0
    exact op_rep0 pins s σ H _ _ v w Q I rx ry ⟨a, rfl, rfl, q⟩
  have h1 : 1 ≤ k := by omega
  obtain ⟨t, rfl⟩ := rx
  obtain ⟨u, rfl⟩ := ry
  have hk : k.toNat ≤ 1000 := by omega
  have hlen : a.length * k.toNat ≤ 1000000 := Nat.mul_le_mul h3 hk
  refine PySem.P.mul_str ?_ ?_ ?_ ?_
  · rw [decide_eq_false (by omega), decide_eq_false (by omega)]; rfl
  · intro _ _
    have : ((2 : Int) ^ 63 - 1) / k ≥ 1000 := by
      rw [ge_iff_le, Int.le_ediv_iff_mul_le (by omega)]
      omega
    omega
  · intro _ _
    have e : (16777216 : Nat) = sizeLine := by decide
    show decide (a.length * k.toNat > sizeLine) = false
    exact decide_eq_false (by omega)
  · rw [if_neg (by omega)]
    by_cases h : k = 1
    · subst h
      exact ⟨.str a, H, I, ⟨t, rfl⟩, q⟩
    · have hb : (k == 1 || a.length == 0) = false := by
        rw [Bool.or_eq_false_iff]
        exact ⟨beq_eq_false_iff_ne.mpr h, beq_eq_false_iff_ne.mpr (by omega)⟩
      rw [hb]
      unfold repS at q
      rw [if_neg (by omega)] at q
      refine ⟨?_, ⟨V.str _, H, I.tok _, ⟨_, rfl⟩, q⟩⟩
      have e : (⟨(List.replicate k.toNat a.cps).foldl (· ++ ·) #[]⟩ : Str).length = 0 + k.toNat * a.length := foldl_size a.cps k.toNat #[]
      rw [e, Nat.zero_add, Nat.mul_comm]
      exact sz_le hlen
theorem op_bin (o : Op) (l : Bool) : OpR X (binaryOp (opS o)) (rOp2 ca fun O x y T => binU O l o x y T) := by
  rintro pins s σ H x y v w Q I rx ry ⟨φ, G, O, T, u1, u2, sd, r1, r2, h⟩
  have h : Pc ca rU φ G O (binU O l o u1 u2 T) Q := h
  unfold binU at h
  split at h
  · -- two ints
    have := rp_int r1; have := rp_int r2; subst_vars
    split at h
    · rename_i hk
      exact op_int o pins s σ H _ _ v w Q I rx ry ⟨_, _, _, rfl, rfl, hk, Pc.now h sd (.d (.int _))⟩
    · exact h.elim
  · -- two texts
    have := rp_str r1; have := rp_str r2; subst_vars
    split at h
    · rename_i hz
      exact op_add_str pins s σ H _ _ v w Q I rx ry ⟨_, _, rfl, rfl, sz_le (sizeOk_le hz), Pc.now h sd (.d (.str _))⟩
    · exact h.elim
  · -- lists, tuples
    split at h
    · rename_i h1 h2
      obtain ⟨a, vs, rfl, ha, ra⟩ := seqL_ok sd r1 h1
      obtain ⟨b, ws, rfl, hb, rb⟩ := seqL_ok sd r2 h2
      split at h
      · rename_i hz
        have hz := sizeOk_le hz
        rw [← ra.length, ← rb.length] at hz
        exact op_catR pins s σ H _ _ v w Q I rx ry ⟨a, b, vs, ws, rfl, rfl, ha, hb, sz_le hz, fun p np => mkL_ok h sd (ra.append rb) np⟩
      · exact h.elim
    · split at h
      · rename_i h1 h2
        obtain ⟨a, vs, rfl, ga, ra⟩ := seqT_okG r1 h1
        obtain ⟨b, ws, rfl, gb, rb⟩ := seqT_okG r2 h2
        have ha := sd.ex _ _ ga
        have hb := sd.ex _ _ gb
        split at h
        · rename_i hz
          have hz := sizeOk_le hz
          rw [← ra.length, ← rb.length] at hz
          refine op_catA pins s σ H _ _ v w Q I rx ry ⟨a, b, vs, ws, rfl, rfl, .inl (.inl ha), .inl (.inl hb), sz_le hz, fun e => ?_, fun _ e => ?_, fun _ _ p np => mkT_ok h sd (ra.append rb) np⟩
          · subst e
            cases ra
            exact Pc.now h sd (mkT_rp gb rb)
          · subst e
            cases rb
            rw [List.append_nil] at h
            exact Pc.now h sd (mkT_rp ga ra)
        · exact h.elim
      · exact h.elim
    · exact h.elim
  · -- a text repeated
    have := rp_str r1; have := rp_int r2; subst_vars
    split at h
    · rename_i hz
      simp only [Bool.and_eq_true, decide_eq_true_eq] at hz
      exact op_repS pins s σ H _ _ v w Q I rx ry ⟨_, _, rfl, rfl, hz.1.1.1, hz.1.1.2, hz.1.2, hz.2, Pc.now h sd (.d (.str _))⟩
    · exact h.elim
  · -- repeated
    have := rp_int r2; subst_vars
    split at h
    · rename_i h1
      obtain ⟨a, vs, rfl, ha, ra⟩ := seqL_ok sd r1 h1
      split at h
      · rename_i hz
        simp only [Bool.and_eq_true, decide_eq_true_eq] at hz
        have hz2 := sizeOk_le hz.2
        rw [← ra.length] at hz2
        exact op_repR pins s σ H _ _ v w Q I rx ry ⟨a, _, vs, rfl, rfl, ha, by omega, by omega, sz_le hz2, fun p np => mkL_ok h sd (ra.replicate _) np⟩
      · exact h.elim
    · split at h
      · rename_i us h1
        obtain ⟨a, vs, rfl, ga, ra⟩ := seqT_okG r1 h1
        have ha := sd.ex _ _ ga
        split at h
        · rename_i hz
          simp only [Bool.and_eq_true, decide_eq_true_eq, Bool.not_eq_true', List.isEmpty_eq_false_iff] at hz
          have hl := ra.length
          rename_i kk _ _ _ _ _ _
          by_cases h1 : kk = 1
          · subst h1
            have e1 : (List.replicate (1 : Int).toNat us).flatten = us := by simp
            rw [e1] at h
            exact op_rep1 pins s σ H _ _ v w Q I rx ry ⟨a, vs, rfl, rfl, .inl (.inl ha), Pc.now h sd (mkT_rp ga ra)⟩
          · exact op_repT pins s σ H _ _ v w Q I rx ry ⟨a, _, vs, rfl, rfl, .inl (.inl ha), fun e => hz.1.1.1 (by rw [e] at hl; exact List.length_eq_zero_iff.mp hl.symm), by omega, hz.1.2, by omega, fun p np => mkT_ok h sd (ra.replicate _) np⟩
        · exact h.elim
      · exact h.elim
  · exact h.elim
end
end Y

set_option Elab.async false
set_option linter.all false
set_option maxRecDepth 100000
set_option maxHeartbeats 1000000
namespace Y
open PySem PySem.Spec L2
section
variable {ca : Nat → Addr} {φ φ' : List Addr} {G G' H : Hp} {O T : Cs} {X : Cx} {K : PySem.W.Frag}
mutual
theorem toD_ok (s : Sd ca φ G H (O ++ T)) : ∀ (n : Nat) (u : U) (v : V) (d : D), RpU G φ v u → toD O T n u = some d → Dp K H v d
  | n, .d x, v, d, r, e => by
    rw [toD_d] at e
    cases e
    cases r with
    | d r => exact Rp.dp s.ex _ _ r
  | n, .tup us, v, d, r, e => by
    rw [toD_tup, Option.map_eq_some_iff] at e
    obtain ⟨ds, e, rfl⟩ := e
    cases r with
    | tup h1 h2 => exact .tup (.inl (.inl (s.ex _ _ h1))) (toDs_ok s n us _ ds h2 e)
  | 0, .ref i, v, d, r, e => by
    rw [toD_ref0] at e
    cases e
  | n + 1, .ref i, v, d, r, e => by
    rw [toD_refS] at e
    cases r with
    | ref hi =>
      split at e
      · rename_i hc
        cases e
        obtain ⟨vs, h1, h2⟩ := cell_at s hi hc
        exact .lst (.inl (.inl h1)) (Rps.dp s.ex _ _ h2)
      · rename_i us hc
        rw [Option.map_eq_some_iff] at e
        obtain ⟨ds, e, rfl⟩ := e
        obtain ⟨vs, h1, h2⟩ := cell_at s hi hc
        exact .lst (.inl (.inl h1)) (toDs_ok s n us _ ds h2 e)
      · cases e
termination_by n u => (n, sizeOf u)
theorem toDs_ok (s : Sd ca φ G H (O ++ T)) : ∀ (n : Nat) (us : List U) (vs : List V) (ds : List D), RpUs G φ vs us → toDs O T n us = some ds → DpAll K H vs ds
  | n, [], vs, ds, r, e => by
    rw [toDs_nil] at e
    cases e
    cases r
    exact .nil
  | n, u :: us, vs, ds, r, e => by
    rw [toDs_cons] at e
    cases r with
    | cons r1 r2 =>
      split at e
      · rename_i x hx
        rw [Option.map_eq_some_iff] at e
        obtain ⟨ds, e, rfl⟩ := e
        exact .cons (toD_ok s n u _ _ r1 hx) (toDs_ok s n us _ _ r2 e)
      · cases e
termination_by n us => (n, sizeOf us)
end
/-- dicts -/
theorem RpK.val : ∀ {ws : List (List Key × V)} {kvs : List (Ky × U)} (k : Ky), RpK G φ ws kvs → (lookK kvs k = none ∧ valV ws k = none) ∨ ∃ u v, lookK kvs k = some u ∧ valV ws k = some v ∧ RpU G φ v u
  | _, _, k, .nil => .inl ⟨rfl, rfl⟩
  | _, _, k, .cons (k := k') (ws := ws) (kvs := kvs) h t => by
    unfold lookK valV
    by_cases e : k' = k
    · rw [List.find?_cons_of_pos (by simpa using e), List.find?_cons_of_pos (by simpa using e)]
      exact .inr ⟨_, _, rfl, rfl, h⟩
    · rw [List.find?_cons_of_neg (by simpa using e), List.find?_cons_of_neg (by simpa using e)]
      exact RpK.val k t
theorem RpK.length : ∀ {ws : List (List Key × V)} {kvs : List (Ky × U)}, RpK G φ ws kvs → ws.length = kvs.length
  | _, _, .nil => rfl
  | _, _, .cons _ t => by simp [RpK.length t]
theorem dictOf_ok (s : Sd ca φ G H (O ++ T)) {u : U} {v : V} {kvs : List (Ky × U)} (r : RpU G φ v u) (e : dictOf O T u = some kvs) : ∃ a ws, v = .ref a ∧ H a = some (.dT ws) ∧ RpK G φ ws kvs := by
  unfold dictOf at e
  split at e
  · cases r with
    | ref hi =>
      split at e
      · rename_i hc
        cases e
        obtain ⟨ws, h1, h2⟩ := cell_at s hi hc
        exact ⟨_, ws, rfl, h1, h2⟩
      · rename_i hc
        cases e
        obtain ⟨ws, h1, h2⟩ := cell_at s hi hc
        exact ⟨_, ws, rfl, h1, h2⟩
      · cases e
  · cases e
theorem keysOf_ok : ∀ {ds : List D} {vs : List V} {k : Ky}, Rps G vs ds → keysOf ds = some k → vs = k.map kV
  | [], _, k, h, e => by cases h; simp [keysOf] at e; subst e; rfl
  | d :: ds, _, k, h, e => by
    cases h with
    | cons h1 h2 =>
      unfold keysOf at e
      split at e
      · rename_i q qs e1 e2
        cases e
        rw [keysOf_ok h2 e2]
        unfold keyOf1 at e1
        split at e1
        · cases e1; cases h1; rfl
        · cases e1; cases h1; rfl
        · cases e1
      · cases e
theorem keyU_ok (s : Sd ca φ G H (O ++ T)) {u : U} {v : V} {k : Ky} (r : RpU G φ v u) (e : keyU u = some k) : ∃ b, v = .ref b ∧ H b = some (.tup (k.map kV)) := by
  unfold keyU at e
  split at e
  · cases r with
    | d r =>
      cases r with
      | tup h1 h2 =>
        rw [← keysOf_ok h2 e]
        exact ⟨_, rfl, s.ex _ _ h1⟩
  · cases e
def copS : COp → CmpOp
  | .eq => .Eq | .ne => .NotEq | .lt => .Lt | .le => .LtE | .gt => .Gt | .ge => .GtE | .is => .Is | .isnot => .IsNot | .isin => .In | .notin => .NotIn
theorem isNone_iff {u : U} {v : V} (r : RpU G φ v u) : isNone u = decide (v = .non) := by
  cases r with
  | d r => cases r <;> rfl
  | ref _ => rfl
  | tup _ _ => rfl
theorem flat_ok {d : D} {v : V} (r : Rp G v d) (h : cmpU.flat d = true) : flatV v = true := by
  cases r <;> first | rfl | exact absurd h (by simp [cmpU.flat])
theorem flat_eqv {d e : D} {v w : V} (r : Rp G v d) (r' : Rp G w e) (h : cmpU.flat d = true) (h' : cmpU.flat e = true) : eqV v w = PyData.eqv d e := by
  cases r <;> cases r' <;> first | rfl | (simp [cmpU.flat] at h; done) | (simp [cmpU.flat] at h'; done) | (unfold PyData.eqv; rfl)
theorem flat_any {d : D} {v : V} (r : Rp G v d) (h : cmpU.flat d = true) : ∀ {ds : List D} {vs : List V}, Rps G vs ds → ds.all cmpU.flat = true → vs.all flatV = true ∧ inV v vs = ds.any fun z => PyData.eqv z d
  | [], _, q, _ => by cases q; exact ⟨rfl, rfl⟩
  | e :: ds, _, q, hq => by
    cases q with
    | cons q1 q2 =>
      simp only [List.all_cons, Bool.and_eq_true] at hq
      obtain ⟨a1, a2⟩ := flat_any r h q2 hq.2
      refine ⟨by simp [flat_ok q1 hq.1, a1], ?_⟩
      unfold inV at a2 ⊢
      simp only [List.any_cons, a2, flat_eqv q1 r hq.1 h]
/-- what «in» answers -/
theorem isin_ok (neg : Bool) (hu : X.A.units + 65 < cLine) {pins : List (Addr × Obj)} {s : Shared} {σ : L2.St} {x y : V} {v w : Value} {Q : VK} (I : L2.Inv X pins σ H s) (rx : RelV x v) (ry : RelV y w) (sd : Sd ca φ G H (O ++ T)) {u1 u2 : U} (r1 : RpU G φ x u1) (r2 : RpU G φ y u2) {k : Bool}
    (e : cmpU.isinU O u1 u2 T = some k) (q : Q (.bl (if neg then !k else k)) H) : wpAny (model X.prog X.w) X.A (compareOp (if neg then .NotIn else .In) v w) (EP X pins σ Q) X.xe s := by
  unfold cmpU.isinU at e
  split at e
  · rename_i kvs hd
    obtain ⟨a, ws, rfl, ha, hk⟩ := dictOf_ok sd r2 hd
    obtain rfl : w = Value.ref a := ry
    split at e
    · rename_i key hkey
      obtain ⟨b, rfl, hb⟩ := keyU_ok sd r1 hkey
      have g : DGet H a (.ref b) (valV ws key) := DGet.t ha hb
      have hs : (valV ws key).isSome = k := by
        rcases hk.val key with ⟨e1, e2⟩ | ⟨_, _, e1, e2, _⟩ <;> rw [e1] at e <;> rw [e2] <;> cases e <;> rfl
      cases neg with
      | false => exact d_in (by omega) I g rx fun s' I' => ⟨.bl _, H, I', rfl, by rw [hs]; exact q⟩
      | true => exact d_notIn (by omega) I g rx fun s' I' => ⟨.bl _, H, I', rfl, by rw [hs]; exact q⟩
    · cases e
  · split at e
    · rename_i c z
      have := rp_str r1; have := rp_str r2; subst_vars
      split at e
      · rename_i kk
        cases e
        cases neg with
        | false => exact op_in_sign pins s σ H _ _ v w Q I rx ry ⟨kk, _, rfl, rfl, q⟩
        | true => exact op_notIn_sign pins s σ H _ _ v w Q I rx ry ⟨kk, _, rfl, rfl, q⟩
      · cases e
    · rename_i a ds
      split at e
      · rename_i hs
        cases e
        simp only [Bool.and_eq_true] at hs
        cases r1 with
        | d r1 =>
          cases r2 with
          | d r2 =>
            cases r2 with
            | tup g1 g2 =>
              obtain ⟨b1, b2⟩ := flat_any r1 hs.1 g2 hs.2
              cases neg with
              | false => exact op_in_seq pins s σ H _ _ v w Q I rx ry ⟨_, _, rfl, .inr (.inl (.inl (sd.ex _ _ g1))), flat_ok r1 hs.1, b1, by rw [b2]; exact q⟩
              | true => exact op_notIn_seq pins s σ H _ _ v w Q I rx ry ⟨_, _, rfl, .inr (.inl (.inl (sd.ex _ _ g1))), flat_ok r1 hs.1, b1, by rw [b2]; exact q⟩
      · cases e
    · split at e
      · rename_i a ds h1 h2
        split at e
        · rename_i hs
          cases e
          simp only [Bool.and_eq_true] at hs
          have d1 := toD_ok (K := X.K) sd 3 _ x a r1 h1
          have d2 := toD_ok (K := X.K) sd 3 _ y _ r2 h2
          cases neg with
          | false => exact op_inD hu pins s σ H _ _ v w Q I rx ry ⟨a, ds, d1, d2, hs.1, hs.2, q⟩
          | true => exact op_notInD hu pins s σ H _ _ v w Q I rx ry ⟨a, ds, d1, d2, hs.1, hs.2, q⟩
        · cases e
      · cases e
theorem op_cmp (o : COp) (hu : X.A.units + 65 < cLine) : OpR X (compareOp (copS o)) (rOp2 ca (cmpR o)) := by
  rintro pins s σ H x y v w Q I rx ry ⟨φ, G, O, T, u1, u2, sd, r1, r2, h⟩
  have h : Pc ca rU φ G O (match cmpU O o u1 u2 T with | some k => .ok (.d (.bool k)) T | none => .fail) Q := h
  cases e : cmpU O o u1 u2 T with
  | none => rw [e] at h; exact h.elim
  | some k =>
    rw [e] at h
    have q : Q (.bl k) H := Pc.now h sd (.d (.bl _))
    clear h
    unfold cmpU at e
    cases o with
    | eq =>
      simp only at e
      split at e
      · rename_i a b h1 h2
        split at e
        · rename_i hs
          cases e
          simp only [Bool.and_eq_true] at hs
          exact op_eqD (by omega) pins s σ H _ _ v w Q I rx ry ⟨a, b, toD_ok (K := X.K) sd 3 _ x a r1 h1, toD_ok (K := X.K) sd 3 _ y b r2 h2, hs.1, hs.2, q⟩
        · cases e
      · cases e
    | ne =>
      simp only at e
      split at e
      · rename_i a b h1 h2
        split at e
        · rename_i hs
          cases e
          simp only [Bool.and_eq_true] at hs
          exact op_neD (by omega) pins s σ H _ _ v w Q I rx ry ⟨a, b, toD_ok (K := X.K) sd 3 _ x a r1 h1, toD_ok (K := X.K) sd 3 _ y b r2 h2, hs.1, hs.2, q⟩
        · cases e
      · rename_i h1 h2
        split at e
        · rename_i i
          split at e
          · rename_i w0 ws hc
            cases e
            cases r1 with
            | ref hi =>
              obtain ⟨vs, g1, g2⟩ := cell_at sd hi hc
              have d2 := toD_ok (K := X.K) sd 3 _ y _ r2 h2
              cases d2 with
              | lst hs ha =>
                cases ha
                cases rx
                cases ry
                obtain ⟨its, rv, pl, _⟩ := I.list (.inl (.inl g1))
                obtain ⟨its2, rv2, pl2, _⟩ := I.list hs
                have e1 : its2.length = 0 := rv2.length.symm
                have e2 : its.length ≠ 0 := by
                  have := rv.length
                  have := g2.length
                  simp at this
                  omega
                exact PySem.SeqAt.RcNeAt.lists_lengths pl.isList pl2.isList (by simp [e1, e2]) (by omega) X.prog X.w X.xe _ ⟨.bl true, H, I, rfl, q⟩
          · cases e
        · cases e
      · cases e
    | is =>
      simp only at e
      split at e
      · rename_i hn
        cases e
        rw [isNone_iff r2, decide_eq_true_eq] at hn
        rw [isNone_iff r1] at q
        exact op_isN pins s σ H _ _ v w Q I rx ry ⟨hn, q⟩
      · split at e
        · cases e
          have e1 := rp_bl r1
          have e2 := rp_bl r2
          rw [e1] at rx
          rw [e2] at ry
          exact op_is_bl pins s σ H _ _ _ _ Q I rx ry ⟨_, _, rfl, rfl, q⟩
        · cases e
    | isnot =>
      simp only at e
      split at e
      · rename_i hn
        cases e
        rw [isNone_iff r2, decide_eq_true_eq] at hn
        rw [isNone_iff r1] at q
        exact op_notN pins s σ H _ _ v w Q I rx ry ⟨hn, q⟩
      · cases e
    | lt =>
      simp only at e
      split at e
      · cases e
        have := rp_int r1; have := rp_int r2; subst_vars
        exact op_lt pins s σ H _ _ v w Q I rx ry ⟨_, _, rfl, rfl, q⟩
      · rename_i a b c d
        cases e
        cases r1 with
        | d r1 =>
          cases r1 with
          | tup g1 g2 =>
            cases r2 with
            | d r2 =>
              cases r2 with
              | tup k1 k2 =>
                cases g2 with
                | cons g2 g3 =>
                  cases g2
                  cases g3 with
                  | cons g3 g4 =>
                    cases g3
                    cases g4
                    cases k2 with
                    | cons k2 k3 =>
                      cases k2
                      cases k3 with
                      | cons k3 k4 =>
                        cases k3
                        cases k4
                        refine op_ltT (by omega) pins s σ H _ _ v w Q I rx ry ⟨_, _, [a, b], [c, d], rfl, rfl, .inl (.inl (sd.ex _ _ g1)), .inl (.inl (sd.ex _ _ k1)), ?_⟩
                        have e : HT.lexLt [a, b] [c, d] = decide (a < c ∨ a = c ∧ b < d) := by
                          simp only [HT.lexLt]
                          by_cases h1 : a < c
                          · have h2 : a ≠ c := by omega
                            simp [h1, h2]
                          · by_cases h2 : a = c
                            · subst h2
                              by_cases h3 : b < d
                              · have h4 : b ≠ d := by omega
                                simp [h3, h4]
                              · simp [h3]
                            · simp [h1, h2]
                        rw [e]
                        exact q
      · cases e
    | le =>
      simp only at e
      split at e
      · cases e
        have := rp_int r1; have := rp_int r2; subst_vars
        exact op_le pins s σ H _ _ v w Q I rx ry ⟨_, _, rfl, rfl, q⟩
      · cases e
    | gt =>
      simp only at e
      split at e
      · cases e
        have := rp_int r1; have := rp_int r2; subst_vars
        exact op_gt pins s σ H _ _ v w Q I rx ry ⟨_, _, rfl, rfl, q⟩
      · cases e
    | ge =>
      simp only at e
      split at e
      · cases e
        have := rp_int r1; have := rp_int r2; subst_vars
        exact op_ge pins s σ H _ _ v w Q I rx ry ⟨_, _, rfl, rfl, q⟩
      · cases e
    | isin => exact isin_ok false hu I rx ry sd r1 r2 e q
    | notin =>
      simp only at e
      rw [Option.map_eq_some_iff] at e
      obtain ⟨k', e, rfl⟩ := e
      exact isin_ok true hu I rx ry sd r1 r2 e q
theorem atI_rp {ds : List D} {vs : List V} {i : Int} {x : D} (r : Rps G vs ds) (e : L2.atI ds i = some x) : ∃ v, L2.atI vs i = some v ∧ Rp G v x := by
  unfold L2.atI at e ⊢
  rw [r.length]
  cases q : ixN ds.length i with
  | none => rw [q] at e; cases e
  | some j => rw [q] at e; exact r.get e
theorem atI_rpU {ds : List U} {vs : List V} {i : Int} {x : U} (r : RpUs G φ vs ds) (e : L2.atI ds i = some x) : ∃ v, L2.atI vs i = some v ∧ RpU G φ v x := by
  unfold L2.atI at e ⊢
  rw [r.length]
  cases q : ixN ds.length i with
  | none => rw [q] at e; cases e
  | some j => rw [q] at e; exact r.get e
theorem ix_any (hu : X.A.units + 65 < cLine) : IxR X (rOp2 ca fun O x y T => R.ofO T (ixU O x y T)) := by
  rintro value slice pins s σ H x y v w Q I rx ry ⟨φ, G, O, T, u1, u2, sd, r1, r2, h⟩ hs
  have h : Pc ca rU φ G O (R.ofO T (ixU O u1 u2 T)) Q := h
  cases e : ixU O u1 u2 T with
  | none => rw [e] at h; exact h.elim
  | some z =>
    rw [e] at h
    have q : ∀ z', RpU G φ z' z → Q z' H := fun z' r => Pc.now h sd r
    clear h
    unfold ixU at e
    split at e
    · rename_i i
      have := rp_int r2; subst_vars
      split at e
      · rw [Option.map_eq_some_iff] at e
        obtain ⟨d, e, rfl⟩ := e
        cases r1 with
        | d r1 =>
          cases r1 with
          | lst g1 g2 =>
            obtain ⟨z', e1, e2⟩ := atI_rp g2 e
            exact ix_list value slice pins s σ H _ _ v w Q I rx ry ⟨_, _, _, _, rfl, rfl, .inl (sd.ex.rd g1), e1, q _ (.d e2)⟩ hs
      · rw [Option.map_eq_some_iff] at e
        obtain ⟨d, e, rfl⟩ := e
        cases r1 with
        | d r1 =>
          cases r1 with
          | tup g1 g2 =>
            obtain ⟨z', e1, e2⟩ := atI_rp g2 e
            exact ix_tup value slice pins s σ H _ _ v w Q I rx ry ⟨_, _, _, _, rfl, rfl, .inl (.inl (sd.ex _ _ g1)), e1, q _ (.d e2)⟩ hs
      · split at e
        · rename_i hz
          rw [Option.map_eq_some_iff] at e
          obtain ⟨c, e, rfl⟩ := e
          have := rp_str r1; subst_vars
          exact ix_str value slice pins s σ H _ _ v w Q I rx ry ⟨_, _, c, rfl, rfl, sz_le (sizeOk_le hz), e, q _ (.d (.str _))⟩ hs
        · cases e
      · cases r1 with
        | tup g1 g2 =>
          obtain ⟨z', e1, e2⟩ := atI_rpU g2 e
          exact ix_tup value slice pins s σ H _ _ v w Q I rx ry ⟨_, _, _, _, rfl, rfl, .inl (.inl (sd.ex _ _ g1)), e1, q _ e2⟩ hs
      · cases r1 with
        | ref hi =>
          split at e
          · rename_i hc
            rw [Option.map_eq_some_iff] at e
            obtain ⟨d, e, rfl⟩ := e
            obtain ⟨vs, h1, h2⟩ := cell_at sd hi hc
            obtain ⟨z', e1, e2⟩ := atI_rp h2 e
            exact ix_list value slice pins s σ H _ _ v w Q I rx ry ⟨_, _, _, _, rfl, rfl, .inl (.inl h1), e1, q _ (.d e2)⟩ hs
          · rename_i hc
            obtain ⟨vs, h1, h2⟩ := cell_at sd hi hc
            obtain ⟨z', e1, e2⟩ := atI_rpU h2 e
            exact ix_list value slice pins s σ H _ _ v w Q I rx ry ⟨_, _, _, _, rfl, rfl, .inl (.inl h1), e1, q _ e2⟩ hs
          · cases e
      · cases e
    · split at e
      · rename_i kvs k hd hk
        obtain ⟨a, ws, rfl, ha, hkv⟩ := dictOf_ok sd r1 hd
        obtain ⟨b, rfl, hb⟩ := keyU_ok sd r2 hk
        rcases hkv.val k with ⟨e1, e2⟩ | ⟨u', v', e1, e2, e3⟩
        · rw [e1] at e; cases e
        · rw [e1] at e
          cases e
          obtain rfl : v = Value.ref a := rx
          have g : DGet H a (.ref b) (some v') := by
            rw [← e2]
            exact DGet.t ha hb
          exact PyProof.Rows.tail_any (dict_typeIs I g) PySem.F.slot_dict_getitem.lookup (d_getItem (by omega) I g ry fun w' s' I' rw' => ⟨_, H, I', rw', q _ e3⟩) hs
      · cases e
theorem cut_rp {us : List U} {vs : List V} (r : RpUs G φ vs us) (lo hi : Option Int) : RpUs G φ (cutV vs lo hi) (cut us lo hi) := by
  unfold cutV cut
  rw [r.length]
  exact (r.drop _).take _
def rSl (ca : Nat → Addr) (l : Bool) : V → Option Int → Option Int → Hp → VK → Prop := fun x lo hi H Q => ∃ φ G O T u, Sd ca φ G H (O ++ T) ∧ RpU G φ x u ∧ Pc ca rU φ G O (slcU O l u lo hi T) Q
theorem sl_any (l : Bool) : SlR X (rSl ca l) := by
  rintro pins s σ H x v vl vu lo hi sl Q I rx hs pl pu ⟨φ, G, O, T, u, sd, r, h⟩
  unfold slcU at h
  split at h
  · rename_i us hl
    obtain ⟨a, vs, rfl, ha, ra⟩ := seqL_ok sd r hl
    exact sl_list pins s σ H _ v vl vu lo hi sl Q I rx hs pl pu ⟨a, vs, rfl, .inl ha, fun p np => mkL_ok h sd (cut_rp ra lo hi) np⟩
  · split at h
    · rename_i us ht
      obtain ⟨a, vs, rfl, ga, ra⟩ := seqT_okG r ht
      refine sl_tupA pins s σ H _ v vl vu lo hi sl Q I rx hs pl pu ⟨a, vs, rfl, .inl (.inl (sd.ex _ _ ga)), fun hw => ?_, fun _ p np => mkT_ok h sd (cut_rp ra lo hi) np⟩
      have ew : cut us lo hi = us := by
        unfold cut
        rw [ra.length] at hw
        rw [hw.1, hw.2]
        simp
      rw [ew] at h
      exact Pc.now h sd (mkT_rp ga ra)
    · split at h
      · split at h
        · rename_i hz
          have := rp_str r; subst_vars
          exact sl_str pins s σ H _ v vl vu lo hi sl Q I rx hs pl pu ⟨_, rfl, sz_le (sizeOk_le hz), Pc.now h sd (.d (.str _))⟩
        · exact h.elim
      · exact h.elim
end
end Y

set_option Elab.async false
set_option linter.all false
set_option maxRecDepth 100000
set_option maxHeartbeats 1000000
namespace Y
open PySem PySem.Spec L2
section
variable {ca : Nat → Addr} {φ φ' : List Addr} {G G' H : Hp} {O T : Cs} {X : Cx} {K : PySem.W.Frag}
theorem RpUs.one {xs : List V} {u : U} (r : RpUs G φ xs [u]) : ∃ x, xs = [x] ∧ RpU G φ x u := by
  cases r with
  | cons h t => cases t; exact ⟨_, rfl, h⟩
theorem RpUs.two {xs : List V} {u w : U} (r : RpUs G φ xs [u, w]) : ∃ x y, xs = [x, y] ∧ RpU G φ x u ∧ RpU G φ y w := by
  cases r with
  | cons h t =>
    cases t with
    | cons h2 t => cases t; exact ⟨_, _, rfl, h, h2⟩
theorem listD_ok (s : Sd ca φ G H (O ++ T)) {u : U} {v : V} {ds : List D} (r : RpU G φ v u) (e : listD O T u = some ds) : ∃ a vs, v = .ref a ∧ Rd H a (.lst vs) ∧ Rps G vs ds := by
  unfold listD at e
  split at e
  · cases e
    cases r with
    | d r => cases r with | lst h1 h2 => exact ⟨_, _, rfl, s.ex.rd h1, h2⟩
  · cases r with
    | ref hi =>
      split at e
      · rename_i hc
        cases e
        obtain ⟨vs, h1, h2⟩ := cell_at s hi hc
        exact ⟨_, vs, rfl, .inl h1, h2⟩
      · cases e
  · cases e
theorem intsOf_ok : ∀ {ds : List D} {vs : List V} {ns : List Int}, Rps G vs ds → intsOf ds = some ns → vs = ns.map V.int
  | [], _, k, h, e => by cases h; simp [intsOf] at e; subst e; rfl
  | d :: ds, _, k, h, e => by
    cases h with
    | cons h1 h2 =>
      cases d <;> simp only [intsOf, Option.map_eq_some_iff, reduceCtorEq] at e
      obtain ⟨r, e, rfl⟩ := e
      cases h1
      rw [intsOf_ok h2 e] <;> rfl
theorem boolsOf_ok : ∀ {ds : List D} {vs : List V} {ns : List Bool}, Rps G vs ds → boolsOf ds = some ns → vs = ns.map V.bl
  | [], _, k, h, e => by cases h; simp [boolsOf] at e; subst e; rfl
  | d :: ds, _, k, h, e => by
    cases h with
    | cons h1 h2 =>
      cases d <;> simp only [boolsOf, Option.map_eq_some_iff, reduceCtorEq] at e
      obtain ⟨r, e, rfl⟩ := e
      cases h1
      rw [boolsOf_ok h2 e] <;> rfl
theorem strsOf_ok : ∀ {ds : List D} {vs : List V} {ns : List Str}, Rps G vs ds → strsOf ds = some ns → vs = ns.map V.str
  | [], _, k, h, e => by cases h; simp [strsOf] at e; subst e; rfl
  | d :: ds, _, k, h, e => by
    cases h with
    | cons h1 h2 =>
      cases d <;> simp only [strsOf, Option.map_eq_some_iff, reduceCtorEq] at e
      obtain ⟨r, e, rfl⟩ := e
      cases h1
      rw [strsOf_ok h2 e] <;> rfl
abbrev rBi (ca : Nat → Addr) (l : Bool) (b : BI) : List V → Hp → VK → Prop := rOpA ca fun O us T => biU O l b us T
variable {l : Bool}
theorem bi_one {b : BI} {f : Cs → Cs → U → R U} (hf : ∀ O us T, biU O l b us T = one us (f O T)) {xs : List V} {Q : VK} (h : rBi ca l b xs H Q) :
    ∃ x φ G O T u, xs = [x] ∧ Sd ca φ G H (O ++ T) ∧ RpU G φ x u ∧ Pc ca rU φ G O (f O T u) Q := by
  obtain ⟨φ, G, O, T, us, sd, r, h⟩ := h
  have h : Pc ca rU φ G O (biU O l b us T) Q := h
  rw [hf] at h
  rcases us with _ | ⟨u, _ | ⟨u2, rest⟩⟩
  · exact h.elim
  · obtain ⟨x, rfl, r1⟩ := r.one
    exact ⟨x, φ, G, O, T, _, rfl, sd, r1, h⟩
  · exact h.elim
theorem bi_two {b : BI} {f : Cs → Cs → U → U → R U} (hf : ∀ O us T, biU O l b us T = two us (f O T)) {xs : List V} {Q : VK} (h : rBi ca l b xs H Q) :
    ∃ x y φ G O T u w, xs = [x, y] ∧ Sd ca φ G H (O ++ T) ∧ RpU G φ x u ∧ RpU G φ y w ∧ Pc ca rU φ G O (f O T u w) Q := by
  obtain ⟨φ, G, O, T, us, sd, r, h⟩ := h
  have h : Pc ca rU φ G O (biU O l b us T) Q := h
  rw [hf] at h
  rcases us with _ | ⟨u, _ | ⟨u2, _ | ⟨u3, rest⟩⟩⟩
  · exact h.elim
  · exact h.elim
  · obtain ⟨x, y, rfl, r1, r2⟩ := r.two
    exact ⟨x, y, φ, G, O, T, _, _, rfl, sd, r1, r2, h⟩
  · exact h.elim
theorem cr_len : CallR X (.builtin "len") (rBi ca l .len) := by
  rintro pins s σ H xs us Q I rv h0
  obtain ⟨x, φ, G, O, T, u, rfl, sd, r, h⟩ := bi_one (b := .len) (f := fun O T => lenB O T) (fun _ _ _ => rfl) h0
  clear h0
  unfold lenB at h
  split at h
  · split at h
    · rename_i hz
      have := rp_str r; subst_vars
      exact call_len_str pins s σ H _ us Q I rv ⟨_, rfl, sz_le (sizeOk_le hz), Pc.now h sd (.d (.int _))⟩
    · exact h.elim
  · split at h
    · rename_i ws hs
      obtain ⟨a, vs, rfl, ha, ra⟩ := seqA_ok sd r hs
      have q : Q (.int (ws.length : Int)) H := Pc.now h sd (.d (.int _))
      rw [← ra.length] at q
      exact call_len_seq pins s σ H _ us Q I rv ⟨a, vs, rfl, ha.elim (fun z => .inl (.inl z)) (fun z => .inr (.inl (.inl z))), q⟩
    · split at h
      · rename_i kvs hd
        obtain ⟨a, ws, rfl, ha, rk⟩ := dictOf_ok sd r hd
        have q : Q (.int (kvs.length : Int)) H := Pc.now h sd (.d (.int _))
        rw [← rk.length] at q
        exact call_len_dT pins s σ H _ us Q I rv ⟨a, ws, rfl, ha, q⟩
      · exact h.elim
theorem cr_list : CallR X (.type "list") (rBi ca l .list) := by
  rintro pins s σ H xs us Q I rv h0
  obtain ⟨x, φ, G, O, T, u, rfl, sd, r, h⟩ := bi_one (b := .list) (f := fun O T => listB O l T) (fun _ _ _ => rfl) h0
  clear h0
  unfold listB at h
  split at h
  · rename_i ws hs
    obtain ⟨a, vs, rfl, ha, ra⟩ := seqA_ok sd r hs
    exact call_list_of pins s σ H _ us Q I rv ⟨a, vs, rfl, ha.elim (fun z => .inl (.inl z)) (fun z => .inr (.inl (.inl z))), fun p np => mkL_ok h sd ra np⟩
  · exact h.elim
theorem cr_tuple : CallR X (.type "tuple") (rBi ca l .tuple) := by
  rintro pins s σ H xs us Q I rv h0
  obtain ⟨x, φ, G, O, T, u, rfl, sd, r, h⟩ := bi_one (b := .tuple) (f := fun O T => tupleB O T) (fun _ _ _ => rfl) h0
  clear h0
  unfold tupleB at h
  split at h
  · rename_i ws hs
    obtain ⟨a, vs, rfl, ha, ra⟩ := seqL_ok sd r hs
    exact call_tuple_of pins s σ H _ us Q I rv ⟨a, vs, rfl, .inl ⟨.inl ha, fun p np => mkT_ok h sd ra np⟩⟩
  · split at h
    · rename_i hs
      obtain ⟨a, vs, rfl, ha, ra⟩ := seqT_ok sd r hs
      exact call_tuple_of pins s σ H _ us Q I rv ⟨a, vs, rfl, .inr ⟨.inl (.inl ha), Pc.now h sd r⟩⟩
    · exact h.elim
theorem cr_sum' (hc : X.calm = true) : CallR X (.builtin "sum") (rBi ca l .sum) := by
  rintro pins s σ H xs us Q I rv h0
  obtain ⟨x, φ, G, O, T, u, rfl, sd, r, h⟩ := bi_one (b := .sum) (f := fun O T => sumB O T) (fun _ _ _ => rfl) h0
  clear h0
  unfold sumB at h
  split at h
  · rename_i ns hs
    obtain ⟨ds, e1, e2⟩ := Option.bind_eq_some_iff.mp hs
    obtain ⟨a, vs, rfl, ha, ra⟩ := listD_ok sd r e1
    rw [intsOf_ok ra e2] at ha
    exact cr_sum hc pins s σ H _ us Q I rv ⟨a, ns, rfl, .inl ha, Pc.now h sd (.d (.int _))⟩
  · exact h.elim
theorem cr_all' (hc : X.calm = true) : CallR X (.builtin "all") (rBi ca l .all) := by
  rintro pins s σ H xs us Q I rv h0
  obtain ⟨x, φ, G, O, T, u, rfl, sd, r, h⟩ := bi_one (b := .all) (f := fun O T => allB O T) (fun _ _ _ => rfl) h0
  clear h0
  unfold allB at h
  split at h
  · rename_i ns hs
    obtain ⟨ds, e1, e2⟩ := Option.bind_eq_some_iff.mp hs
    obtain ⟨a, vs, rfl, ha, ra⟩ := listD_ok sd r e1
    rw [boolsOf_ok ra e2] at ha
    exact cr_all hc pins s σ H _ us Q I rv ⟨a, ns, rfl, .inl ha, Pc.now h sd (.d (.bl _))⟩
  · exact h.elim
theorem cr_any' (hc : X.calm = true) : CallR X (.builtin "any") (rBi ca l .any) := by
  rintro pins s σ H xs us Q I rv h0
  obtain ⟨x, φ, G, O, T, u, rfl, sd, r, h⟩ := bi_one (b := .any) (f := fun O T => anyB O T) (fun _ _ _ => rfl) h0
  clear h0
  unfold anyB at h
  split at h
  · rename_i ns hs
    obtain ⟨ds, e1, e2⟩ := Option.bind_eq_some_iff.mp hs
    obtain ⟨a, vs, rfl, ha, ra⟩ := listD_ok sd r e1
    rw [boolsOf_ok ra e2] at ha
    exact cr_any hc pins s σ H _ us Q I rv ⟨a, ns, rfl, .inl ha, Pc.now h sd (.d (.bl _))⟩
  · exact h.elim
theorem cr_int : CallR X (.type "int") (rBi ca l .int) := by
  rintro pins s σ H xs us Q I rv h0
  obtain ⟨x, φ, G, O, T, u, rfl, sd, r, h⟩ := bi_one (b := .int) (f := fun O T => intB T) (fun _ _ _ => rfl) h0
  clear h0
  unfold intB at h
  split at h
  · have := rp_int r; subst_vars
    exact call_int1 pins s σ H _ us Q I rv (.inl ⟨_, rfl, Pc.now h sd (.d (.int _))⟩)
  · have e1 := rp_bl r
    subst e1
    exact call_int1 pins s σ H _ us Q I rv (.inr ⟨_, rfl, Pc.now h sd (.d (.int _))⟩)
  · have := rp_str r; subst_vars
    split at h
    · split at h
      · rename_i e1 e2
        exact call_int_str pins s σ H _ us Q I rv ⟨_, _, rfl, e1, of_decide_eq_true e2, Pc.now h sd (.d (.int _))⟩
      · exact h.elim
    · exact h.elim
  · exact h.elim
theorem cr_str : CallR X (.type "str") (rBi ca l .str) := by
  rintro pins s σ H xs us Q I rv h0
  obtain ⟨x, φ, G, O, T, u, rfl, sd, r, h⟩ := bi_one (b := .str) (f := fun O T => strB T) (fun _ _ _ => rfl) h0
  clear h0
  unfold strB at h
  split at h
  · have := rp_int r; subst_vars
    split at h
    · rename_i i hz
      simp only [Bool.and_eq_true, decide_eq_true_eq] at hz
      refine call_str_int pins s σ H _ us Q I rv ⟨_, rfl, ?_, Pc.now h sd (.d (.str _))⟩
      have h1 : i.natAbs < 2 ^ 200 := by
        have : i.natAbs < 1000000000000000000000000000000000000000000000000000000000000 := by omega
        exact Nat.lt_trans this (by decide)
      by_cases h2 : i.natAbs = 0
      · rw [h2]; decide
      · have := (Nat.log2_lt h2).mpr h1
        omega
    · exact h.elim
  · exact h.elim
theorem cr_abs : CallR X (.builtin "abs") (rBi ca l .abs) := by
  rintro pins s σ H xs us Q I rv h0
  obtain ⟨x, φ, G, O, T, u, rfl, sd, r, h⟩ := bi_one (b := .abs) (f := fun O T => absB T) (fun _ _ _ => rfl) h0
  clear h0
  unfold absB at h
  split at h
  · have := rp_int r; subst_vars
    exact call_abs pins s σ H _ us Q I rv ⟨_, rfl, Pc.now h sd (.d (.int _))⟩
  · exact h.elim
theorem cr_max2 (hc : X.calm = true) : CallR X (.builtin "max") (rBi ca l .max2) := by
  rintro pins s σ H xs us Q I rv h0
  obtain ⟨x, y, φ, G, O, T, u, w, rfl, sd, r1, r2, h⟩ := bi_two (b := .max2) (f := fun O T => max2B T) (fun _ _ _ => rfl) h0
  clear h0
  unfold max2B at h
  split at h
  · have := rp_int r1; have := rp_int r2; subst_vars
    exact call_max2 hc pins s σ H _ us Q I rv ⟨_, _, rfl, Pc.now h sd (.d (.int _))⟩
  · exact h.elim
theorem cr_min2 (hc : X.calm = true) : CallR X (.builtin "min") (rBi ca l .min2) := by
  rintro pins s σ H xs us Q I rv h0
  obtain ⟨x, y, φ, G, O, T, u, w, rfl, sd, r1, r2, h⟩ := bi_two (b := .min2) (f := fun O T => min2B T) (fun _ _ _ => rfl) h0
  clear h0
  unfold min2B at h
  split at h
  · have := rp_int r1; have := rp_int r2; subst_vars
    exact call_min2 hc pins s σ H _ us Q I rv ⟨_, _, rfl, Pc.now h sd (.d (.int _))⟩
  · exact h.elim
def tyS : Ty → String
  | .non => "NoneType" | .bool => "bool" | .int => "int" | .str => "str" | .list => "list" | .tuple => "tuple" | .dict => "dict"
theorem tyU_ok (s : Sd ca φ G H (O ++ T)) {u : U} {v : V} {t : Ty} (r : RpU G φ v u) (e : tyU O T u = some t) : TyX K H v (.type (tyS t)) := by
  unfold tyU at e
  split at e
  · cases e; cases r with | d r => cases r; exact .base .non
  · cases e; cases r with | d r => cases r; exact .base (.bl _)
  · cases e; cases r with | d r => cases r; exact .base (.int _)
  · cases e; cases r with | d r => cases r; exact .base (.str _)
  · cases e
    cases r with
    | d r =>
      cases r with
      | lst h1 h2 =>
        rcases s.ex.rd h1 with h | ⟨o, h⟩
        · exact .base (.lst h)
        · exact .base (.frz h)
  · cases e; cases r with | d r => cases r with | tup h1 h2 => exact .base (.tup (s.ex _ _ h1))
  · cases e; cases r with | tup h1 h2 => exact .base (.tup (s.ex _ _ h1))
  · cases r with
    | ref hi =>
      split at e
      · rename_i hc; cases e; obtain ⟨vs, h1, _⟩ := cell_at s hi hc; exact .base (.lst h1)
      · rename_i hc; cases e; obtain ⟨vs, h1, _⟩ := cell_at s hi hc; exact .base (.lst h1)
      · rename_i hc; cases e; obtain ⟨vs, h1, _⟩ := cell_at s hi hc; exact .base (.dT h1)
      · rename_i hc; cases e; obtain ⟨vs, h1, _⟩ := cell_at s hi hc; exact .base (.dT h1)
      · cases e
  · cases e
theorem kit_tys (a b : Ty) (hb : b ≠ .non) : kitB (tyS a) (tyS b) = some (decide (a = b) || (decide (a = .bool) && decide (b = .int))) := by
  cases b <;> first | exact absurd rfl hb | (cases a <;> decide +kernel)
def isiB : BI → Option Ty
  | .isint => some .int | .isbool => some .bool | .isstr => some .str | .islist => some .list | .istuple => some .tuple | .isdict => some .dict
  | _ => none
theorem isiB_eq {b : BI} {t : Ty} (h : isiB b = some t) (O : Cs) (us : List U) (T : Cs) : biU O l b us T = one us (isB O T t) := by
  cases b <;> first | (cases h; rfl) | cases h
theorem isiB_ne {b : BI} {t : Ty} (h : isiB b = some t) : t ≠ .non := by
  cases b <;> first | (cases h; decide) | cases h
/-- isinstance(x, T) -/
def rIsU (ca : Nat → Addr) (t : Ty) : List V → Hp → VK → Prop := fun xs H Q => ∃ x φ G O T u, xs = [x, .ty (tyS t)] ∧ Sd ca φ G H (O ++ T) ∧ RpU G φ x u ∧ Pc ca rU φ G O (isB O T t u) Q
theorem cr_isi {t : Ty} (ht : t ≠ .non) : CallR X (.builtin "isinstance") (rIsU ca t) := by
  rintro pins s σ H xs us Q I rv ⟨x, φ, G, O, T, u, rfl, sd, r, h⟩
  unfold isB at h
  split at h
  · rename_i a ha
    exact call_isi pins s σ H _ us Q I rv ⟨x, _, _, _, _, rfl, .ty _, tyU_ok sd r ha, kit_ty (kit_tys a t ht), Pc.now h sd (.d (.bl _))⟩
  · exact h.elim
end
end Y

set_option Elab.async false
set_option linter.all false
set_option maxRecDepth 100000
set_option maxHeartbeats 1000000
namespace Y
open PySem PySem.Spec L2
section
variable {ca : Nat → Addr} {φ φ' : List Addr} {G G' H : Hp} {O T : Cs} {X : Cx} {K : PySem.W.Frag} {l : Bool}
/-- a live cell is written: what follows -/
theorem setC_ok {Q : VK} {i : Nat} {a : Addr} {c c' : Cell} {o : HO} (h : Pc ca rU φ G O (setC O T i c') Q) (s : Sd ca φ G H (O ++ T)) (hi : φ[i]? = some a) (hc : getC O T i = some c) (hl : live c) (k : CellOk ca G φ (upd H a o) a c') : Q .non (upd H a o) := by
  unfold setC at h
  split at h
  · rename_i hb
    rw [getC_eq] at hc
    have s' := s.write hi hc hl k
    rw [set_own _ _ _ _ hb.1] at s'
    exact Pc.now h s' (.d .non)
  · exact h.elim
/-- the same, something behind -/
theorem setC_bind {α : Type} {β : Type} {rel : Hp → List Addr → β → α → Prop} {Q : β → Hp → Prop} {i : Nat} {a : Addr} {c c' : Cell} {o : HO} {f : Cs → R α} (h : Pc ca rel φ G O ((setC O T i c').bind fun _ T => f T) Q) (s : Sd ca φ G H (O ++ T)) (hi : φ[i]? = some a) (hc : getC O T i = some c) (hl : live c)
    (k : CellOk ca G φ (upd H a o) a c') : ∃ T', Sd ca φ G (upd H a o) (O ++ T') ∧ Pc ca rel φ G O (f T') Q := by
  unfold setC at h
  split at h
  · rename_i hb
    rw [getC_eq] at hc
    have s' := s.write hi hc hl k
    rw [set_own _ _ _ _ hb.1] at s'
    exact ⟨_, s', h⟩
  · exact h.elim
abbrev rMt (ca : Nat → Addr) (l : Bool) (m : MT) : V → List V → Hp → VK → Prop := rOpM ca fun O u us T => mtU O l m u us T
theorem cellOf_ok {a : Addr} {vs : List V} {us : List U} {H : Hp} (h : H a = some (.lst vs)) (r : RpUs G φ vs us) : CellOk ca G φ H a (cellOf us) := by
  unfold cellOf
  cases e : allD us with
  | none => exact ⟨vs, h, r⟩
  | some ds => exact ⟨vs, h, r.down e⟩
theorem live_lst {ds : List D} : live (.lst ds) := trivial
theorem live_lstU {ds : List U} : live (.lstU ds) := trivial
theorem Rps.app {vs ws : List V} {ds es : List D} (a : Rps G vs ds) (b : Rps G ws es) : Rps G (vs ++ ws) (ds ++ es) := by
  have := (a.up (φ := [])).append (b.up (φ := []))
  rw [← List.map_append] at this
  exact this.downD
theorem Rps.eraseIdx : ∀ {us : List D} {vs : List V} (n : Nat), Rps G vs us → Rps G (vs.eraseIdx n) (us.eraseIdx n)
  | [], _, _, q => by cases q; exact .nil
  | d :: ds, _, 0, q => by cases q with | cons _ h2 => exact h2
  | d :: ds, _, n + 1, q => by cases q with | cons h1 h2 => exact .cons h1 (Rps.eraseIdx n h2)
theorem mt_append' : MtR X "list.append" (rMt ca l .append) := by
  rintro pins s σ H x xs v us Q I rx rv ⟨φ, G, O, T, u, ws, sd, ru, rw_, h⟩
  have h : Pc ca rU φ G O (mtU O l .append u ws T) Q := h
  unfold mtU at h
  split at h
  all_goals try contradiction
  all_goals first | exact h.elim | skip
  obtain ⟨y, rfl, ry⟩ := rw_.one
  cases ru with
  | ref hi =>
    unfold appU at h
    split at h
    · rename_i ds hc
      obtain ⟨vs, h1, h2⟩ := cell_at sd hi hc
      split at h
      · rename_i hz
        have hz := sizeOk_le hz
        rw [← h2.length] at hz
        split at h
        · rename_i x'
          cases ry with
          | d ry => exact mt_append pins s σ H _ _ v us Q I rx rv ⟨_, vs, y, rfl, rfl, h1, sz_lt hz, setC_ok h sd hi hc live_lst ⟨_, upd_same, h2.app (.cons ry .nil)⟩⟩
        · exact mt_append pins s σ H _ _ v us Q I rx rv ⟨_, vs, y, rfl, rfl, h1, sz_lt hz, setC_ok h sd hi hc live_lst ⟨_, upd_same, h2.up.append (.cons ry .nil)⟩⟩
      · exact h.elim
    · rename_i ds hc
      obtain ⟨vs, h1, h2⟩ := cell_at sd hi hc
      split at h
      · rename_i hz
        have hz := sizeOk_le hz
        rw [← h2.length] at hz
        exact mt_append pins s σ H _ _ v us Q I rx rv ⟨_, vs, y, rfl, rfl, h1, sz_lt hz, setC_ok h sd hi hc live_lstU ⟨_, upd_same, h2.append (.cons ry .nil)⟩⟩
      · exact h.elim
    · exact h.elim
theorem mt_extend' : MtR X "list.extend" (rMt ca l .extend) := by
  rintro pins s σ H x xs v us Q I rx rv ⟨φ, G, O, T, u, ws, sd, ru, rw_, h⟩
  have h : Pc ca rU φ G O (mtU O l .extend u ws T) Q := h
  unfold mtU at h
  split at h
  all_goals try contradiction
  all_goals first | exact h.elim | skip
  obtain ⟨y, rfl, ry⟩ := rw_.one
  cases ru with
  | ref hi =>
    split at h
    · rename_i ds zs hc hs
      obtain ⟨vs, h1, h2⟩ := cell_at sd hi hc
      obtain ⟨b, ys, rfl, hb, rb⟩ := seqL_ok sd ry hs
      split at h
      · rename_i hz
        have hz := sizeOk_le hz
        rw [← h2.length, ← rb.length] at hz
        exact mt_extendR pins s σ H _ _ v us Q I rx rv ⟨_, b, vs, ys, rfl, rfl, h1, hb, sz_le hz, setC_ok h sd hi hc live_lst (cellOf_ok upd_same (h2.up.append rb))⟩
      · exact h.elim
    · rename_i ds zs hc hs
      obtain ⟨vs, h1, h2⟩ := cell_at sd hi hc
      obtain ⟨b, ys, rfl, hb, rb⟩ := seqL_ok sd ry hs
      split at h
      · rename_i hz
        have hz := sizeOk_le hz
        rw [← h2.length, ← rb.length] at hz
        exact mt_extendR pins s σ H _ _ v us Q I rx rv ⟨_, b, vs, ys, rfl, rfl, h1, hb, sz_le hz, setC_ok h sd hi hc live_lstU ⟨_, upd_same, h2.append rb⟩⟩
      · exact h.elim
    · exact h.elim
theorem Rps.last {ds : List D} {vs : List V} {x : D} (r : Rps G vs ds) (e : ds.getLast? = some x) : ∃ v, vs[vs.length - 1]? = some v ∧ Rp G v x := by
  rw [List.getLast?_eq_getElem?] at e
  obtain ⟨v, h1, h2⟩ := r.get e
  rw [← r.length] at h1
  exact ⟨v, h1, h2⟩
theorem RpUs.last {ds : List U} {vs : List V} {x : U} (r : RpUs G φ vs ds) (e : ds.getLast? = some x) : ∃ v, vs[vs.length - 1]? = some v ∧ RpU G φ v x := by
  rw [List.getLast?_eq_getElem?] at e
  obtain ⟨v, h1, h2⟩ := r.get e
  rw [← r.length] at h1
  exact ⟨v, h1, h2⟩
theorem Rps.dropLast {ds : List D} {vs : List V} (r : Rps G vs ds) : Rps G vs.dropLast ds.dropLast := by
  have := (r.up (φ := [])).dropLast
  rw [← List.map_dropLast] at this
  exact this.downD
theorem mt_pop' : MtR X "list.pop" (rMt ca l .pop) := by
  rintro pins s σ H x xs v us Q I rx rv ⟨φ, G, O, T, u, ws, sd, ru, rw_, h⟩
  have h : Pc ca rU φ G O (mtU O l .pop u ws T) Q := h
  unfold mtU at h
  split at h
  all_goals try contradiction
  all_goals first | exact h.elim | skip
  cases rw_
  cases ru with
  | ref hi =>
    split at h
    · rename_i ds hc
      obtain ⟨vs, h1, h2⟩ := cell_at sd hi hc
      split at h
      · rename_i x' hl
        obtain ⟨y, e1, e2⟩ := h2.last hl
        obtain ⟨T', s', q⟩ := setC_bind (o := .lst vs.dropLast) h sd hi hc live_lst ⟨_, upd_same, h2.dropLast⟩
        exact mt_pop pins s σ H _ _ v us Q I rx rv ⟨_, vs, y, rfl, rfl, h1, e1, Pc.now q s' (.d e2)⟩
      · exact h.elim
    · rename_i ds hc
      obtain ⟨vs, h1, h2⟩ := cell_at sd hi hc
      split at h
      · rename_i x' hl
        obtain ⟨y, e1, e2⟩ := h2.last hl
        obtain ⟨T', s', q⟩ := setC_bind (o := .lst vs.dropLast) h sd hi hc live_lstU ⟨_, upd_same, h2.dropLast⟩
        exact mt_pop pins s σ H _ _ v us Q I rx rv ⟨_, vs, y, rfl, rfl, h1, e1, Pc.now q s' e2⟩
      · exact h.elim
    · exact h.elim
theorem mt_popAt' : MtR X "list.pop" (rMt ca l .popAt) := by
  rintro pins s σ H x xs v us Q I rx rv ⟨φ, G, O, T, u, ws, sd, ru, rw_, h⟩
  have h : Pc ca rU φ G O (mtU O l .popAt u ws T) Q := h
  unfold mtU at h
  split at h
  all_goals try contradiction
  all_goals first | exact h.elim | skip
  obtain ⟨y, rfl, ry⟩ := rw_.one
  have := rp_int ry; subst_vars
  cases ru with
  | ref hi =>
    split at h
    · rename_i ds hc
      obtain ⟨vs, h1, h2⟩ := cell_at sd hi hc
      split at h
      · rename_i hb
        simp only [Bool.and_eq_true, decide_eq_true_eq] at hb
        split at h
        · rename_i k hk
          split at h
          · rename_i x' hx
            obtain ⟨y, e1, e2⟩ := h2.get hx
            have h3 : Rps G (vs.eraseIdx k) (ds.eraseIdx k) := h2.eraseIdx k
            obtain ⟨T', s', q⟩ := setC_bind (o := .lst (vs.eraseIdx k)) h sd hi hc live_lst ⟨_, upd_same, h3⟩
            rw [← h2.length] at hk
            exact mt_popAt pins s σ H _ _ v us Q I rx rv ⟨_, vs, _, k, y, rfl, rfl, h1, by omega, by omega, hk, e1, Pc.now q s' (.d e2)⟩
          · exact h.elim
        · exact h.elim
      · exact h.elim
    · exact h.elim
theorem mt_insert' : MtR X "list.insert" (rMt ca l .insert) := by
  rintro pins s σ H x xs v us Q I rx rv ⟨φ, G, O, T, u, ws, sd, ru, rw_, h⟩
  have h : Pc ca rU φ G O (mtU O l .insert u ws T) Q := h
  unfold mtU at h
  split at h
  all_goals try contradiction
  all_goals first | exact h.elim | skip
  obtain ⟨y, z, rfl, ry, rz⟩ := rw_.two
  have := rp_int ry; subst_vars
  cases ru with
  | ref hi =>
    split at h
    · rename_i ds hc
      obtain ⟨vs, h1, h2⟩ := cell_at sd hi hc
      split at h
      · rename_i hb
        simp only [Bool.and_eq_true, decide_eq_true_eq] at hb
        have hz := sizeOk_le hb.2
        rw [← h2.length] at hz
        cases rz with
        | d rz =>
          have h3 : ∀ n, Rps G (vs.take n) (ds.take n) := fun n => by
            have := (h2.up (φ := [])).take n
            rw [← List.map_take] at this
            exact this.downD
          have h4 : ∀ n, Rps G (vs.drop n) (ds.drop n) := fun n => by
            have := (h2.up (φ := [])).drop n
            rw [← List.map_drop] at this
            exact this.downD
          exact mt_insert pins s σ H _ _ v us Q I rx rv ⟨_, vs, _, z, rfl, rfl, h1, sz_lt hz, hb.1.1, by omega, setC_ok h sd hi hc live_lst ⟨_, upd_same, ((h3 _).app (.cons rz .nil)).app (h4 _)⟩⟩
      · exact h.elim
    · exact h.elim
theorem mt_reverse' : MtR X "list.reverse" (rMt ca l .reverse) := by
  rintro pins s σ H x xs v us Q I rx rv ⟨φ, G, O, T, u, ws, sd, ru, rw_, h⟩
  have h : Pc ca rU φ G O (mtU O l .reverse u ws T) Q := h
  unfold mtU at h
  split at h
  all_goals try contradiction
  all_goals first | exact h.elim | skip
  cases rw_
  cases ru with
  | ref hi =>
    split at h
    · rename_i ds hc
      obtain ⟨vs, h1, h2⟩ := cell_at sd hi hc
      have h3 : Rps G vs.reverse ds.reverse := by
        have := (h2.up (φ := [])).reverse
        rw [← List.map_reverse] at this
        exact this.downD
      exact mt_reverse pins s σ H _ _ v us Q I rx rv ⟨_, vs, rfl, rfl, h1, setC_ok h sd hi hc live_lst ⟨_, upd_same, h3⟩⟩
    · rename_i ds hc
      obtain ⟨vs, h1, h2⟩ := cell_at sd hi hc
      exact mt_reverse pins s σ H _ _ v us Q I rx rv ⟨_, vs, rfl, rfl, h1, setC_ok h sd hi hc live_lstU ⟨_, upd_same, h2.reverse⟩⟩
    · exact h.elim
theorem mt_clear' : MtR X "list.clear" (rMt ca l .clear) := by
  rintro pins s σ H x xs v us Q I rx rv ⟨φ, G, O, T, u, ws, sd, ru, rw_, h⟩
  have h : Pc ca rU φ G O (mtU O l .clear u ws T) Q := h
  unfold mtU at h
  split at h
  all_goals try contradiction
  all_goals first | exact h.elim | skip
  cases rw_
  cases ru with
  | ref hi =>
    split at h
    · rename_i ds hc
      obtain ⟨vs, h1, h2⟩ := cell_at sd hi hc
      exact mt_clear pins s σ H _ _ v us Q I rx rv ⟨_, vs, rfl, rfl, h1, setC_ok h sd hi hc live_lst ⟨_, upd_same, .nil⟩⟩
    · rename_i ds hc
      obtain ⟨vs, h1, h2⟩ := cell_at sd hi hc
      exact mt_clear pins s σ H _ _ v us Q I rx rv ⟨_, vs, rfl, rfl, h1, setC_ok h sd hi hc live_lstU ⟨_, upd_same, .nil⟩⟩
    · exact h.elim
theorem RpK.getD {ws : List (List Key × V)} {kvs : List (Ky × U)} (k : Ky) (r : RpK G φ ws kvs) {v : V} {u : U} (h : RpU G φ v u) : RpU G φ ((valV ws k).getD v) ((lookK kvs k).getD u) := by
  rcases r.val k with ⟨e1, e2⟩ | ⟨_, _, e1, e2, e3⟩
  · rw [e1, e2]; exact h
  · rw [e1, e2]; exact e3
theorem mt_get1 (hu : X.A.units + 65 < cLine) : MtR X "dict.get" (rMt ca l .get1) := by
  rintro pins s σ H x xs v us Q I rx rv ⟨φ, G, O, T, u, ws, sd, ru, rw_, h⟩
  have h : Pc ca rU φ G O (mtU O l .get1 u ws T) Q := h
  unfold mtU at h
  split at h
  all_goals try contradiction
  all_goals first | exact h.elim | skip
  obtain ⟨y, rfl, ry⟩ := rw_.one
  split at h
  · rename_i kvs k hd hk
    obtain ⟨a, zs, rfl, ha, rk⟩ := dictOf_ok sd ru hd
    obtain ⟨b, rfl, hb⟩ := keyU_ok sd ry hk
    obtain rfl : v = Value.ref a := rx
    obtain ⟨uu, rfl, ruu⟩ := rv.one
    exact d_get1 (by omega) I (DGet.t ha hb) ruu fun w' s' I' rw' => ⟨_, H, I', rw', Pc.now h sd (rk.getD k (.d .non))⟩
  · exact h.elim
theorem vals_two {xs : V} {ys : V} {us : List Value} (r : Vals [xs, ys] us) : ∃ u w, us = [u, w] ∧ RelV xs u ∧ RelV ys w := by
  cases r with
  | cons h t =>
    cases t with
    | cons h2 t => cases t; exact ⟨_, _, rfl, h, h2⟩
theorem mt_get2 (hu : X.A.units + 65 < cLine) : MtR X "dict.get" (rMt ca l .get2) := by
  rintro pins s σ H x xs v us Q I rx rv ⟨φ, G, O, T, u, ws, sd, ru, rw_, h⟩
  have h : Pc ca rU φ G O (mtU O l .get2 u ws T) Q := h
  unfold mtU at h
  split at h
  all_goals try contradiction
  all_goals first | exact h.elim | skip
  obtain ⟨y, z, rfl, ry, rz⟩ := rw_.two
  split at h
  · rename_i kvs k hd hk
    obtain ⟨a, zs, rfl, ha, rk⟩ := dictOf_ok sd ru hd
    obtain ⟨b, rfl, hb⟩ := keyU_ok sd ry hk
    obtain rfl : v = Value.ref a := rx
    obtain ⟨u1, u2, rfl, r1, r2⟩ := vals_two rv
    exact d_get2 (by omega) I (DGet.t ha hb) r1 r2 fun w' s' I' rw' => ⟨_, H, I', rw', Pc.now h sd (rk.getD k rz)⟩
  · exact h.elim
theorem mt_join' : MtR X "str.join" (rMt ca l .join) := by
  rintro pins s σ H x xs v us Q I rx rv ⟨φ, G, O, T, u, ws, sd, ru, rw_, h⟩
  have h : Pc ca rU φ G O (mtU O l .join u ws T) Q := h
  unfold mtU at h
  split at h
  all_goals try contradiction
  all_goals first | exact h.elim | skip
  obtain ⟨y, rfl, ry⟩ := rw_.one
  have := rp_str ru; subst_vars
  split at h
  · rename_i ds hs
    obtain ⟨zs, e1, e2⟩ := Option.bind_eq_some_iff.mp hs
    obtain ⟨a, vs, rfl, ha, ra⟩ := seqA_ok sd ry e1
    split at h
    · rename_i ts ht
      have e3 := strsOf_ok (ra.down e2) ht
      subst e3
      split at h
      · rename_i hz
        have hz := sizeOk_le hz
        exact mt_join pins s σ H _ _ v us Q I rx rv ⟨_, a, ts, rfl, rfl, ha.elim (fun z => .inl (.inl z)) (fun z => .inr (.inl (.inl z))), by omega, Pc.now h sd (.d (.str _))⟩
      · exact h.elim
    · exact h.elim
  · exact h.elim
theorem strs_rp (ss : List Str) : RpUs G φ (ss.map V.str) (ss.map fun x => .d (.str x)) := by
  induction ss with
  | nil => exact .nil
  | cons a r ih => exact .cons (.d (.str _)) ih
theorem mt_split' : MtR X "str.split" (rMt ca l .split) := by
  rintro pins s σ H x xs v us Q I rx rv ⟨φ, G, O, T, u, ws, sd, ru, rw_, h⟩
  have h : Pc ca rU φ G O (mtU O l .split u ws T) Q := h
  unfold mtU at h
  split at h
  all_goals try contradiction
  all_goals first | exact h.elim | skip
  obtain ⟨y, rfl, ry⟩ := rw_.one
  have := rp_str ru
  have := rp_str ry
  subst_vars
  split at h
  · rename_i hz
    simp only [Bool.and_eq_true, Bool.not_eq_true'] at hz
    have hz1 := sizeOk_le hz.1
    have e : (16777216 : Nat) = sizeLine := by decide
    refine mt_split pins s σ H _ _ v us Q I rx rv ⟨_, _, rfl, rfl, hz.2, by omega, fun p np => mkL_ok h sd (strs_rp _) np⟩
  · exact h.elim
theorem mt_strip' : MtR X "str.strip" (rMt ca l .strip) := by
  rintro pins s σ H x xs v us Q I rx rv ⟨φ, G, O, T, u, ws, sd, ru, rw_, h⟩
  have h : Pc ca rU φ G O (mtU O l .strip u ws T) Q := h
  unfold mtU at h
  split at h
  all_goals try contradiction
  all_goals first | exact h.elim | skip
  cases rw_
  have := rp_str ru
  subst_vars
  split at h
  · rename_i hz
    have hz1 := sizeOk_le hz
    have e : (16777216 : Nat) = sizeLine := by decide
    exact mt_strip pins s σ H _ _ v us Q I rx rv ⟨_, rfl, rfl, by omega, Pc.now h sd (.d (.str _))⟩
  · exact h.elim
theorem mt_index' : MtR X "list.index" (rMt ca l .index) := by
  rintro pins s σ H x xs v us Q I rx rv ⟨φ, G, O, T, u, ws, sd, ru, rw_, h⟩
  have h : Pc ca rU φ G O (mtU O l .index u ws T) Q := h
  unfold mtU at h
  split at h
  all_goals try contradiction
  all_goals first | exact h.elim | skip
  obtain ⟨y, rfl, ry⟩ := rw_.one
  split at h
  · rename_i ds hs
    obtain ⟨zs, e1, e2⟩ := Option.bind_eq_some_iff.mp hs
    obtain ⟨a, vs, rfl, ha, ra⟩ := seqL_ok sd ru e1
    have rd := ra.down e2
    split at h
    · rename_i hf
      simp only [Bool.and_eq_true] at hf
      cases ry with
      | d ry =>
        split at h
        · rename_i j hj
          obtain ⟨hlt, hjv, hno⟩ := List.findIdx?_eq_some_iff_getElem.mp hj
          obtain ⟨f1, _⟩ := flat_any ry hf.1 rd hf.2
          have hd : ds[j]? = some ds[j] := List.getElem?_eq_getElem hlt
          obtain ⟨z, hz, rz⟩ := rd.get hd
          refine mt_index pins s σ H _ _ v us Q I rx rv ⟨a, vs, y, j, z, rfl, rfl, .inl ha, flat_ok ry hf.1, f1, hz, ?_, ?_, Pc.now h sd (.d (.int _))⟩
          · rw [flat_eqv rz ry (List.all_eq_true.mp hf.2 _ (List.getElem_mem hlt)) hf.1]
            exact hjv
          · intro m z' hm hz'
            have hmd : m < ds.length := by omega
            obtain ⟨z2, hz2, rz2⟩ := rd.get (List.getElem?_eq_getElem hmd)
            rw [hz'] at hz2
            cases hz2
            rw [flat_eqv rz2 ry (List.all_eq_true.mp hf.2 _ (List.getElem_mem hmd)) hf.1]
            exact by simpa using hno m hm
        · exact h.elim
    · exact h.elim
  · exact h.elim
theorem mt_sindex' : MtR X "str.index" (rMt ca l .sindex) := by
  rintro pins s σ H x xs v us Q I rx rv ⟨φ, G, O, T, u, ws, sd, ru, rw_, h⟩
  have h : Pc ca rU φ G O (mtU O l .sindex u ws T) Q := h
  unfold mtU at h
  split at h
  all_goals try contradiction
  all_goals first | exact h.elim | skip
  obtain ⟨y, rfl, ry⟩ := rw_.one
  have := rp_str ru
  have := rp_str ry
  subst_vars
  split at h
  · rename_i i rest ho
    exact mt_sindex pins s σ H _ _ v us Q I rx rv ⟨_, _, i, rest, rfl, rfl, ho, Pc.now h sd (.d (.int _))⟩
  · exact h.elim
end
end Y

set_option Elab.async false
set_option linter.all false
set_option maxRecDepth 100000
set_option maxHeartbeats 1000000
namespace Y
open PySem PySem.Spec L2
section
variable {ca : Nat → Addr} {φ φ' φ0 : List Addr} {G G' G0 H : Hp} {O T : Cs} {X : Cx} {K : PySem.W.Frag} {C : Cn} {σ : L2.St} {ρ : Rho} {D : Ends} {pos : Pos}
mutual
theorem beqD_eq : ∀ (a b : Y.D), beqD a b = true → a = b
  | .none, b, h => by cases b <;> simp_all [beqD]
  | .bool x, b, h => by cases b <;> simp_all [beqD]
  | .int x, b, h => by cases b <;> simp_all [beqD]
  | .str x, b, h => by cases b <;> simp_all [beqD]
  | .list x, b, h => by
    cases b <;> simp only [beqD, Bool.false_eq_true] at h
    rw [beqDs_eq _ _ h]
  | .tuple x, b, h => by
    cases b <;> simp only [beqD, Bool.false_eq_true] at h
    rw [beqDs_eq _ _ h]
  | .dict x, b, h => by
    cases b <;> simp only [beqD, Bool.false_eq_true] at h
    rw [beqDp_eq _ _ h]
theorem beqDp_eq : ∀ (a b : List (Y.D × Y.D)), beqDp a b = true → a = b
  | [], b, h => by cases b <;> simp_all [beqDp]
  | (a, x) :: xs, b, h => by
    cases b <;> simp only [beqDp, Bool.false_eq_true, Bool.and_eq_true] at h
    rw [beqD_eq _ _ h.1.1, beqD_eq _ _ h.1.2, beqDp_eq _ _ h.2]
theorem beqDs_eq : ∀ (a b : List Y.D), beqDs a b = true → a = b
  | [], b, h => by cases b <;> simp_all [beqDs]
  | x :: xs, b, h => by
    cases b <;> simp only [beqDs, Bool.false_eq_true, Bool.and_eq_true] at h
    rw [beqD_eq _ _ h.1, beqDs_eq _ _ h.2]
end
mutual
theorem beqU_eq : ∀ (a b : U), beqU a b = true → a = b
  | .d x, b, h => by
    cases b <;> simp only [beqU, Bool.false_eq_true] at h
    rw [beqD_eq _ _ h]
  | .ref x, b, h => by cases b <;> simp_all [beqU]
  | .tup x, b, h => by
    cases b <;> simp only [beqU, Bool.false_eq_true] at h
    rw [beqUs_eq _ _ h]
theorem beqUs_eq : ∀ (a b : List U), beqUs a b = true → a = b
  | [], b, h => by cases b <;> simp_all [beqUs]
  | x :: xs, b, h => by
    cases b <;> simp only [beqUs, Bool.false_eq_true, Bool.and_eq_true] at h
    rw [beqU_eq _ _ h.1, beqUs_eq _ _ h.2]
end
theorem beqDk_eq : ∀ (a b : List (Ky × Y.D)), beqDk a b = true → a = b
  | [], b, h => by cases b <;> simp_all [beqDk]
  | (k, x) :: xs, b, h => by
    cases b <;> simp only [beqDk, Bool.false_eq_true, Bool.and_eq_true, decide_eq_true_eq] at h
    rw [h.1.1, beqD_eq _ _ h.1.2, beqDk_eq _ _ h.2]
theorem beqUk_eq : ∀ (a b : List (Ky × U)), beqUk a b = true → a = b
  | [], b, h => by cases b <;> simp_all [beqUk]
  | (k, x) :: xs, b, h => by
    cases b <;> simp only [beqUk, Bool.false_eq_true, Bool.and_eq_true, decide_eq_true_eq] at h
    rw [h.1.1, beqU_eq _ _ h.1.2, beqUk_eq _ _ h.2]
theorem beqC_eq : ∀ (a b : Cell), beqC a b = true → a = b
  | .lst x, b, h => by cases b <;> simp only [beqC, Bool.false_eq_true] at h; rw [beqDs_eq _ _ h]
  | .lstU x, b, h => by cases b <;> simp only [beqC, Bool.false_eq_true] at h; rw [beqUs_eq _ _ h]
  | .dct x, b, h => by cases b <;> simp only [beqC, Bool.false_eq_true] at h; rw [beqDk_eq _ _ h]
  | .dctU x, b, h => by cases b <;> simp only [beqC, Bool.false_eq_true] at h; rw [beqUk_eq _ _ h]
  | .ins _ _, b, h => by cases b <;> simp [beqC] at h
  | .exn _ _, b, h => by cases b <;> simp [beqC] at h
  | .dead, b, h => by cases b <;> simp [beqC] at h
theorem beqFs_eq : ∀ (a b : List (Str × U)), beqFs a b = true → a = b
  | [], b, h => by cases b <;> simp_all [beqFs]
  | (k, x) :: xs, b, h => by
    cases b <;> simp only [beqFs, Bool.false_eq_true, Bool.and_eq_true, decide_eq_true_eq] at h
    rw [h.1.1, beqU_eq _ _ h.1.2, beqFs_eq _ _ h.2]
theorem beqA_eq : ∀ (a b : Cell), beqA a b = true → a = b
  | .lst x, b, h => by cases b <;> simp only [beqA, Bool.false_eq_true] at h; rw [beqDs_eq _ _ h]
  | .lstU x, b, h => by cases b <;> simp only [beqA, Bool.false_eq_true] at h; rw [beqUs_eq _ _ h]
  | .dct x, b, h => by cases b <;> simp only [beqA, Bool.false_eq_true] at h; rw [beqDk_eq _ _ h]
  | .dctU x, b, h => by cases b <;> simp only [beqA, Bool.false_eq_true] at h; rw [beqUk_eq _ _ h]
  | .ins c x, b, h => by
    cases b <;> simp only [beqA, Bool.false_eq_true, Bool.and_eq_true, decide_eq_true_eq] at h
    rw [h.1, beqFs_eq _ _ h.2]
  | .exn c x, b, h => by
    cases b <;> simp only [beqA, Bool.false_eq_true, Bool.and_eq_true, decide_eq_true_eq] at h
    have e := beqFs_eq _ _ h.2
    have e2 := (List.map_inj_right (fun a b (q : ((a.1, U.d a.2) : Str × U) = (b.1, U.d b.2)) => by
      obtain ⟨a1, a2⟩ := a
      obtain ⟨b1, b2⟩ := b
      simp only [Prod.mk.injEq, U.d.injEq] at q
      rw [q.1, q.2])).mp e
    rw [h.1, e2]
  | .dead, b, h => by cases b <;> simp_all [beqA]
theorem beqCs_eq : ∀ (a b : Cs), beqCs a b = true → a = b
  | [], b, h => by cases b <;> simp_all [beqCs]
  | x :: xs, b, h => by
    cases b <;> simp only [beqCs, Bool.false_eq_true, Bool.and_eq_true] at h
    rw [beqA_eq _ _ h.1, beqCs_eq _ _ h.2]
theorem sameW_eq {T' : Cs} {i : Nat} {c : Cell} (h : sameW O T T' (some i) = true) (e : getC O T i = some c) : getC O T' i = some c := by
  unfold sameW at h
  simp only [e] at h
  cases e' : getC O T' i with
  | none => rw [e'] at h; cases h
  | some c' => rw [e'] at h; rw [beqC_eq _ _ h]
mutual
def slotsT : Tg → List Nat
  | .nm i => [i]
  | .tp ts => slotsTs ts
  | .lp ts => slotsTs ts
def slotsTs : Tgs → List Nat
  | .nil => []
  | .cons t ts => slotsT t ++ slotsTs ts
end
/-- the same but for some slots -/
def SameBut (is : List Nat) (σ σ' : L2.St) : Prop := ∀ vs : List Nat, (∀ i ∈ is, i ∈ vs) → wipe σ' vs = wipe σ vs
theorem wipe_set_ne {σ : L2.St} {i : Nat} {x : Option V} : ∀ {vs : List Nat}, i ∉ vs → wipe (σ.set i x) vs = (wipe σ vs).set i x
  | [], _ => rfl
  | v :: vs, h => by
    unfold wipe
    rw [wipe_set_ne (fun z => h (List.mem_cons_of_mem _ z)), List.set_comm _ _ (fun e => h (by rw [e]; exact List.mem_cons_self))]
theorem wipe_set {σ : L2.St} {i : Nat} {x : Option V} : ∀ {vs : List Nat}, i ∈ vs → wipe (σ.set i x) vs = wipe σ vs
  | [], h => by simp at h
  | v :: vs, h => by
    unfold wipe
    by_cases hv : i ∈ vs
    · rw [wipe_set hv]
    · have e : i = v := by
        rcases List.mem_cons.mp h with e | e
        · exact e
        · exact absurd e hv
      subst e
      rw [wipe_set_ne hv, List.set_set]
theorem SameBut.refl {is : List Nat} {σ : L2.St} : SameBut is σ σ := fun _ _ => rfl
theorem SameBut.trans {is js : List Nat} {σ σ1 σ2 : L2.St} (a : SameBut is σ σ1) (b : SameBut js σ1 σ2) : SameBut (is ++ js) σ σ2 := fun vs h => (b vs fun i hi => h i (List.mem_append_right _ hi)).trans (a vs fun i hi => h i (List.mem_append_left _ hi))
def RG (ca : Nat → Addr) (tg : Tg) : L2.TG := fun v σ H Q => ∃ φ G O ρ T u, At ca φ G H O T σ ρ ∧ RpU G φ v u ∧ match asgT O T tg u ρ with
  | some ρ' => ∀ σ', At ca φ G H O T σ' ρ' → SameBut (slotsT tg) σ σ' → Q σ' H
  | none => False
def RGs (ca : Nat → Addr) (tg : Tgs) : L2.TGs := fun vs σ H Q => ∃ φ G O ρ T us, At ca φ G H O T σ ρ ∧ RpUs G φ vs us ∧ match asgTs O T tg us ρ with
  | some ρ' => ∀ σ', At ca φ G H O T σ' ρ' → SameBut (slotsTs tg) σ σ' → Q σ' H
  | none => False
theorem At.set (t : At ca φ G H O T σ ρ) {v : V} {u : U} (r : RpU G φ v u) (i : Nat) : At ca φ G H O T (σ.set i (some v)) (ρ.set i (some u)) := by
  refine ⟨t.s, fun j w h => ?_, by simp [t.n]⟩
  by_cases e : i = j
  · subst e
    have lt : i < ρ.length := by
      have := (List.getElem?_eq_some_iff.mp h).1
      simpa using this
    rw [List.getElem?_set_self lt] at h
    cases h
    exact ⟨v, List.getElem?_set_self (by rw [t.n]; exact lt), r⟩
  · rw [List.getElem?_set_ne e] at h
    obtain ⟨v', h1, h2⟩ := t.l j w h
    exact ⟨v', by rw [List.getElem?_set_ne e]; exact h1, h2⟩
theorem pg_nm {i : Nat} {x : Str} (hN : X.N.Nodup) (hi : X.N[i]? = some x) (hx : Loc X.env.scope x) (hf : X.fn x = true ∨ X.env.scope.names.lookup x = some .local) : PG X (.Name x pos) (RG ca (.nm i)) := by
  refine (pg_name hN hi hx hf).imp ?_
  rintro v σ H Q ⟨φ, G, O, ρ, T, u, t, r, h⟩
  exact h _ (t.set r i) fun vs hi => wipe_set (hi i (by simp [slotsT]))
theorem pgs_nl : PGs X [] (RGs ca .nil) := by
  refine ⟨fun pins s σ H vs us Q I r h => pgs_nil.run pins s σ H vs us Q I r ?_⟩
  obtain ⟨φ, G, O, ρ, T, us', t, r', h⟩ := h
  cases us' with
  | nil => cases r'; exact ⟨rfl, h _ t SameBut.refl⟩
  | cons _ _ => exact h.elim
theorem pgs_cn {e : Expr} {es : List Expr} {tg : Tg} {tgs : Tgs} (h1 : PG X e (RG ca tg)) (h2 : PGs X es (RGs ca tgs)) (hs : (assignEach (e :: es) X.env).map (·.2) = assign e X.env :: (assignEach es X.env).map (·.2)) : PGs X (e :: es) (RGs ca (.cons tg tgs)) := by
  refine ⟨fun pins s σ H vs us Q I r h => (pgs_cons h1 h2 hs).run pins s σ H vs us Q I r ?_⟩
  obtain ⟨φ, G, O, ρ, T, us', t, r', h⟩ := h
  cases us' with
  | nil => exact h.elim
  | cons u us' =>
    cases r' with
    | cons r1 r2 =>
      refine ⟨_, _, rfl, φ, G, O, ρ, T, u, t, r1, ?_⟩
      rw [asgTs] at h
      cases e : asgT O T tg u ρ with
      | none => rw [e] at h; exact h.elim
      | some ρ' =>
        rw [e] at h
        refine fun σ' t' sb => ⟨φ, G, O, ρ', T, us', t', r2, ?_⟩
        cases e2 : asgTs O T tgs us' ρ' with
        | none => simp only [e2] at h
        | some ρ2 => simp only [e2] at h; exact fun σ2 t2 sb2 => h σ2 t2 (sb.trans sb2)
theorem pg_tp {es : List Expr} {k : Nat} {tgs : Tgs} {n : Nat} (hc : X.calm = true) (h : PGs X es (RGs ca tgs)) (hn : (assignEach es X.env).length = n) (hst : (assignEach es X.env).findIdx? (·.1) = none)
    (hlen : ∀ (O T : Cs) us ρ ρ', asgTs O T tgs us ρ = some ρ' → us.length = n) : PG X (.Tuple es k pos) (RG ca (.tp tgs)) := by
  refine (pg_tup hc h hn hst).imp ?_
  rintro v σ H Q ⟨φ, G, O, ρ, T, u, t, r, h⟩
  rw [asgT] at h
  cases e : seqT u with
  | none => rw [e] at h; exact h.elim
  | some us =>
    rw [e] at h
    obtain ⟨a, vs, rfl, ha, ra⟩ := seqT_ok t.s r e
    refine ⟨a, vs, rfl, .inl (.inl ha), ?_, φ, G, O, ρ, T, us, t, ra, h⟩
    cases e2 : asgTs O T tgs us ρ with
    | none => have h' : (match asgTs O T tgs us ρ with | some ρ' => ∀ σ', At ca φ G H O T σ' ρ' → SameBut (slotsTs tgs) σ σ' → Q σ' H | none => False) := h; rw [e2] at h'; exact h'.elim
    | some ρ' => rw [ra.length]; exact hlen _ _ _ _ _ e2
def PF (ca : Nat → Addr) (φ : List Addr) (G : Hp) (O : Cs) (r : F) (D : Ends) : Prop := match r with
  | .nx ρ T => ∀ σ φ' G' H', Fut φ G φ' G' → At ca φ' G' H' O T σ ρ → D.nx σ H'
  | .rt u T => ∀ v φ' G' H', Fut φ G φ' G' → Sd ca φ' G' H' (O ++ T) → RpU G' φ' v u → D.rt v H'
  | .bk ρ T => ∀ σ φ' G' H', Fut φ G φ' G' → At ca φ' G' H' O T σ ρ → D.bk σ H'
  | .ct ρ T => ∀ σ φ' G' H', Fut φ G φ' G' → At ca φ' G' H' O T σ ρ → D.ct σ H'
  | .exc _ _ _ _ => False
  | .fail => False
theorem PF.later {r : F} (f : Fut φ G φ' G') (h : PF ca φ G O r D) : PF ca φ' G' O r D := by
  cases r with
  | nx ρ T => exact fun σ φ2 G2 H2 f2 t => h σ φ2 G2 H2 (f.trans f2) t
  | rt u T => exact fun v φ2 G2 H2 f2 s r => h v φ2 G2 H2 (f.trans f2) s r
  | bk ρ T => exact fun σ φ2 G2 H2 f2 t => h σ φ2 G2 H2 (f.trans f2) t
  | ct ρ T => exact fun σ φ2 G2 H2 f2 t => h σ φ2 G2 H2 (f.trans f2) t
  | exc => exact h
  | fail => exact h
def RS (ca : Nat → Addr) (C : Cn) (c : CS) : TS := fun D σ H => ∃ φ G O ρ T, At ca φ G H O T σ ρ ∧ PF ca φ G O (denS C O c ρ T) D
def RBl (ca : Nat → Addr) (C : Cn) (c : CB) : TS := fun D σ H => ∃ φ G O ρ T, At ca φ G H O T σ ρ ∧ PF ca φ G O (denB C O c ρ T) D
/-- a value, then the rest of a statement -/
theorem PF.of {r : R U} {k : U → Cs → F} (h : PF ca φ G O (F.of ρ r k) D) : Pc ca rU φ G O r (fun v H' => Mid ca rU φ G O v H' fun u T' φ' G' => PF ca φ' G' O (k u T') D) := by
  cases r with
  | ok u T =>
    have h : PF ca φ G O (k u T) D := h
    exact fun b φ2 G2 H2 f2 s r => ⟨φ2, G2, T, u, f2, s, r, h.later f2⟩
  | exc => exact h
  | fail => exact h
theorem pss_nl : PSs X [] (RBl ca C .nil) := pss_nil.imp fun D σ H => by
  rintro ⟨φ, G, O, ρ, T, t, h⟩
  rw [denB] at h
  exact h σ φ G H Fut.refl t
theorem pss_cn {st : Stmt} {sts : List Stmt} {c : CS} {b : CB} (h1 : PS X st (RS ca C c)) (h2 : PSs X sts (RBl ca C b)) : PSs X (st :: sts) (RBl ca C (.cons c b)) := (pss_cons h1 h2).imp fun D σ H => by
  rintro ⟨φ, G, O, ρ, T, t, h⟩
  rw [denB] at h
  refine ⟨φ, G, O, ρ, T, t, ?_⟩
  cases e : denS C O c ρ T with
  | nx ρ' T' =>
    rw [e] at h
    exact fun σ' φ' G' H' f t' => ⟨φ', G', O, ρ', T', t', h.later f⟩
  | rt u T' => rw [e] at h; exact h
  | bk ρ T => rw [e] at h; exact h
  | ct ρ T => rw [e] at h; exact h
  | exc => rw [e] at h; exact h
  | fail => rw [e] at h; exact h
theorem ps_as {tg e : Expr} {g : Tg} {c : CE} (he : PE X e (RE ca C c)) (hg : PG X tg (RG ca g)) (hs : swapsWithSole [tg] e pos.line X.env = pure false) (hw : swappedStores [tg] e X.env = pure none) (hm : (assignEach [tg] X.env).map (·.2) = [assign tg X.env]) : PS X (.Assign [tg] e pos) (RS ca C (.asg g c)) :=
  (ps_asg he hg hs hw hm).imp fun D σ H => by
    rintro ⟨φ, G, O, ρ, T, t, h⟩
    rw [denS] at h
    refine ⟨φ, G, O, ρ, T, t, Pc.imp h.of ?_⟩
    rintro v H1 ⟨φ1, G1, T1, u, f1, s1, r1, h1⟩
    refine ⟨φ1, G1, O, ρ, T1, u, ⟨s1, f1.lo t.l, t.n⟩, r1, ?_⟩
    cases e : asgT O T1 g u ρ with
    | none => rw [e] at h1; exact h1
    | some ρ' => rw [e] at h1; exact fun σ' t' _ => h1 σ' φ1 G1 H1 Fut.refl t'
theorem ps_ex {e : Expr} {c : CE} (he : PE X e (RE ca C c)) (hs : swapsWith e none pos.line X.env = pure false) : PS X (.Expr e pos) (RS ca C (.ex c)) := (ps_expr he hs).imp fun D σ H => by
  rintro ⟨φ, G, O, ρ, T, t, h⟩
  rw [denS] at h
  refine ⟨φ, G, O, ρ, T, t, Pc.imp h.of ?_⟩
  rintro v H1 ⟨φ1, G1, T1, u, f1, s1, r1, h1⟩
  exact h1 σ φ1 G1 H1 Fut.refl ⟨s1, f1.lo t.l, t.n⟩
theorem ps_rt {e : Expr} {c : CE} (he : PE X e (RE ca C c)) : PS X (.Return (some e) pos) (RS ca C (.ret c)) := (ps_ret he).imp fun D σ H => by
  rintro ⟨φ, G, O, ρ, T, t, h⟩
  rw [denS] at h
  refine ⟨φ, G, O, ρ, T, t, Pc.imp h.of ?_⟩
  rintro v H1 ⟨φ1, G1, T1, u, f1, s1, r1, h1⟩
  exact h1 v φ1 G1 H1 Fut.refl s1 r1
theorem ps_rtN : PS X (.Return none pos) (RS ca C .retN) := ps_retN.imp fun D σ H => by
  rintro ⟨φ, G, O, ρ, T, t, h⟩
  rw [denS] at h
  exact h .non φ G H Fut.refl t.s (.d .non)
theorem ps_br : PS X (.Break pos) (RS ca C .brk) := ps_break.imp fun D σ H => by
  rintro ⟨φ, G, O, ρ, T, t, h⟩
  rw [denS] at h
  exact h σ φ G H Fut.refl t
theorem ps_ct : PS X (.Continue pos) (RS ca C .cnt) := ps_continue.imp fun D σ H => by
  rintro ⟨φ, G, O, ρ, T, t, h⟩
  rw [denS] at h
  exact h σ φ G H Fut.refl t
theorem ps_pa : PS X (.Pass pos) (RS ca C .pass) := ps_pass.imp fun D σ H => by
  rintro ⟨φ, G, O, ρ, T, t, h⟩
  rw [denS] at h
  exact h σ φ G H Fut.refl t
theorem ps_bd {st : Stmt} : PS X st (RS ca C .bad) := ps_never.imp fun D σ H => by
  rintro ⟨φ, G, O, ρ, T, t, h⟩
  rw [denS] at h
  exact h
/-- a test, then one of two blocks -/
theorem PF.br {r : R U} {k : Bool → Cs → F} (h : PF ca φ G O (F.of ρ r fun x T => match asB x with | some true => k true T | some false => k false T | none => .fail) D) :
    Pc ca rB φ G O (tst r) (fun b H' => Mid ca rB φ G O b H' fun a T' φ' G' => PF ca φ' G' O (k a T') D) := by
  cases r with
  | ok u T =>
    have h : PF ca φ G O (match asB u with | some true => k true T | some false => k false T | none => .fail) D := h
    show Pc ca rB φ G O (R.ofO T (asB u)) _
    cases e : asB u with
    | none => rw [e] at h; exact h
    | some b =>
      rw [e] at h
      intro b' φ2 G2 H2 f2 s r
      have r : b' = b := r
      subst r
      refine ⟨φ2, G2, T, b', f2, s, rfl, ?_⟩
      cases b' <;> exact h.later f2
  | exc => exact h
  | fail => exact h
theorem ps_it {t : Expr} {a b : List Stmt} {ct : CE} {cx cy : CB} (ht : PT X t (RT ca C ct)) (ha : PSs X a (RBl ca C cx)) (hb : PSs X b (RBl ca C cy)) : PS X (.If t a b pos) (RS ca C (.ite ct cx cy)) := (ps_if ht ha hb).imp fun D σ H => by
  rintro ⟨φ, G, O, ρ, T, t, h⟩
  rw [denS] at h
  refine ⟨φ, G, O, ρ, T, t, Pc.imp (PF.br (k := fun b T => if b = true then denB C O cx ρ T else denB C O cy ρ T) h) ?_⟩
  rintro k H1 ⟨φ1, G1, T1, u, f1, s1, r1, h1⟩
  have r1 : k = u := r1
  subst r1
  cases k with
  | true => exact ⟨φ1, G1, O, ρ, T1, ⟨s1, f1.lo t.l, t.n⟩, h1⟩
  | false => exact ⟨φ1, G1, O, ρ, T1, ⟨s1, f1.lo t.l, t.n⟩, h1⟩
theorem loopW_s (test : Rho → Cs → R U) (body : Rho → Cs → F) (n : Nat) (ρ : Rho) (T : Cs) : loopW test body (n + 1) ρ T = F.of ρ (test ρ T) fun b T => match asB b with
    | some true => (match body ρ T with
      | .nx ρ' T' => loopW test body n ρ' T' | .ct ρ' T' => loopW test body n ρ' T'
      | .bk ρ' T' => .nx ρ' T'
      | .rt u T' => .rt u T' | .exc c fs ρ T => .exc c fs ρ T | .fail => .fail)
    | some false => .nx ρ T
    | none => .fail := by
  rw [loopW]
  congr 1
  funext b T
  cases asB b with
  | none => rfl
  | some k =>
    cases k with
    | false => rfl
    | true => cases e : body ρ T <;> simp only [e]
theorem ps_wh {t : Expr} {b : List Stmt} {ct : CE} {cb : CB} {n : Nat} (hp : PassesOwn (model X.prog X.w) X.A X.env X.xe) (ht : PT X t (RT ca C ct)) (hb : PSs X b (RBl ca C cb)) : PS X (.While t b [] pos) (RS ca C (.wh n ct cb)) := (ps_while hp ht hb).imp fun D σ H => by
  rintro ⟨φ, G, O, ρ, T, t, h⟩
  rw [denS] at h
  refine ⟨fun m σ H => ∃ φ G ρ T, At ca φ G H O T σ ρ ∧ PF ca φ G O (loopW (fun ρ T => den C O ρ ct T) (fun ρ T => denB C O cb ρ T) m ρ T) D, ⟨n, φ, G, ρ, T, t, h⟩, ?_⟩
  rintro m σ H ⟨φ, G, ρ, T, t, h⟩
  cases m with
  | zero => exact h.elim
  | succ m =>
    rw [loopW_s] at h
    refine ⟨φ, G, O, ρ, T, t, Pc.imp (PF.br (k := fun k T => if k = true then (match denB C O cb ρ T with
      | .nx ρ' T' => loopW (fun ρ T => den C O ρ ct T) (fun ρ T => denB C O cb ρ T) m ρ' T' | .ct ρ' T' => loopW (fun ρ T => den C O ρ ct T) (fun ρ T => denB C O cb ρ T) m ρ' T'
      | .bk ρ' T' => .nx ρ' T'
      | .rt u T' => .rt u T' | .exc c fs ρ T => .exc c fs ρ T | .fail => .fail) else .nx ρ T) h) ?_⟩
    rintro k H1 ⟨φ1, G1, T1, u, f1, s1, r1, h1⟩
    have r1 : k = u := r1
    subst r1
    have t1 : At ca φ1 G1 H1 O T1 σ ρ := ⟨s1, f1.lo t.l, t.n⟩
    cases k with
    | false => exact h1 σ φ1 G1 H1 Fut.refl t1
    | true =>
      rw [if_pos rfl] at h1 ⊢
      refine ⟨_, fun σ' H' hh => ⟨m, Nat.lt_succ_self m, hh⟩, φ1, G1, O, ρ, T1, t1, ?_⟩
      cases e : denB C O cb ρ T1 with
      | nx ρ' T' => rw [e] at h1; exact fun σ' φ' G' H' f t' => ⟨φ', G', ρ', T', t', h1.later f⟩
      | ct ρ' T' => rw [e] at h1; exact fun σ' φ' G' H' f t' => ⟨φ', G', ρ', T', t', h1.later f⟩
      | bk ρ' T' => rw [e] at h1; exact h1
      | rt u T' => rw [e] at h1; exact h1
      | exc => rw [e] at h1; exact h1
      | fail => rw [e] at h1; exact h1
def JOk (ca : Nat → Addr) (J : It) (its : Its) (φ0 : List Addr) (G0 : Hp) (O : Cs) : Prop := ∀ φ G H T, Fut φ0 G0 φ G → Sd ca φ G H (O ++ T) → sameW O its.t T its.w = true →
  (∀ (i : Nat) (u : U), its.us[i]? = some u → J.go i H ∧ ∀ x H', J.yld i H x H' → Ex H H' ∧ ∃ G', Fut φ G φ G' ∧ Sd ca φ G' H' (O ++ T) ∧ RpU G' φ x u) ∧ J.stop its.us.length H
def IOk (ca : Nat → Addr) (φ : List Addr) (G : Hp) (O : Cs) (r : R Its) (K : It → Hp → Prop) : Prop := match r with
  | .ok its T0 => ∀ J φ' G' H', Fut φ G φ' G' → Sd ca φ' G' H' (O ++ T0) → JOk ca J its φ' G' O → K J H'
  | .exc _ _ _ => False
  | .fail => False
theorem IOk.later {r : R Its} {K : It → Hp → Prop} (f : Fut φ G φ' G') (h : IOk ca φ G O r K) : IOk ca φ' G' O r K := by
  cases r with
  | ok its T0 => exact fun J φ2 G2 H2 f2 s2 j => h J φ2 G2 H2 (f.trans f2) s2 j
  | exc => exact h
  | fail => exact h
def RI (ca : Nat → Addr) (C : Cn) (it : IT) : TI := fun σ H R => ∃ φ G O ρ T, At ca φ G H O T σ ρ ∧ IOk ca φ G O (denI C O ρ it T) R
theorem _root_.L2.PI.imp {X : Cx} {tg e : Expr} {t t' : TI} (h : PI X tg e t) (k : ∀ σ H Q, t' σ H Q → t σ H Q) : PI X tg e t' := ⟨fun pins s σ H R I q => h.run pins s σ H R I (k σ H R q)⟩
theorem loopF_c (body : U → Rho → Cs → F) (ok : Cs → Bool) (u : U) (us : List U) (ρ : Rho) (T : Cs) (h : ok T = true) : loopF body ok (u :: us) ρ T = match body u ρ T with
      | .nx ρ' T' => loopF body ok us ρ' T' | .ct ρ' T' => loopF body ok us ρ' T'
      | .bk ρ' T' => .nx ρ' T'
      | .rt u T' => .rt u T' | .exc c fs ρ T => .exc c fs ρ T | .fail => .fail := by
  rw [loopF, if_pos h]
  cases e : body u ρ T <;> simp only [e]
theorem ps_fo {tg e : Expr} {b : List Stmt} {g : Tg} {it : IT} {cb : CB} (hp : PassesOwn (model X.prog X.w) X.A X.env X.xe) (hc : X.calm = true) (hi : PI X tg e (RI ca C it)) (hg : PG X tg (RG ca g)) (hb : PSs X b (RBl ca C cb))
    (hs : ∀ x, foldedSetIterable e X.env x = pure x) : PS X (.For tg e b [] pos) (RS ca C (.for_ g it cb)) := (ps_for hp hc hi hg hb hs).imp fun D σ H => by
  rintro ⟨φ, G, O, ρ, T, t, h⟩
  rw [denS] at h
  refine ⟨φ, G, O, ρ, T, t, ?_⟩
  cases ei : denI C O ρ it T with
  | exc => rw [ei] at h; exact h
  | fail => rw [ei] at h; exact h
  | ok its T0 =>
    rw [ei] at h
    intro J φ1 G1 H1 f1 s1 jok
    generalize hbd : (fun u ρ T => match asgT O T g u ρ with
        | some ρ' => denB C O cb ρ' T
        | none => F.fail) = bd at h
    refine ⟨fun i m σ H => ∃ φ G ρ T, Fut φ1 G1 φ G ∧ At ca φ G H O T σ ρ ∧ m = its.us.length - i ∧ i ≤ its.us.length ∧ PF ca φ G O (loopF bd (fun T' => sameW O its.t T' its.w) (its.us.drop i) ρ T) D,
      ⟨its.us.length, φ1, G1, ρ, T0, Fut.refl, ⟨s1, f1.lo t.l, t.n⟩, rfl, Nat.zero_le _, h.later f1⟩, ?_⟩
    rintro i m σ H ⟨φ, G, ρ, T, f, t, rfl, hi, h⟩
    by_cases hlt : i < its.us.length
    · rw [List.drop_eq_getElem_cons hlt] at h
      by_cases hw : sameW O its.t T its.w = true
      · rw [loopF_c _ _ _ _ _ _ hw] at h
        have jj := (jok φ G H T f t.s hw).1 i its.us[i] (List.getElem?_eq_getElem hlt)
        refine .inr ⟨jj.1, fun σ' H' => ∃ φ G ρ T, Fut φ1 G1 φ G ∧ At ca φ G H' O T σ' ρ ∧ PF ca φ G O (loopF bd (fun T' => sameW O its.t T' its.w) (its.us.drop (i + 1)) ρ T) D,
          fun σ' H' hh => ⟨its.us.length - (i + 1), by omega, ?_⟩, fun x H' hy => ?_⟩
        · obtain ⟨φ2, G2, ρ2, T2, a, b, c⟩ := hh
          exact ⟨φ2, G2, ρ2, T2, a, b, rfl, hlt, c⟩
        · obtain ⟨_, G2, f2, s2, r2⟩ := jj.2 x H' hy
          refine ⟨φ, G2, O, ρ, T, its.us[i], ⟨s2, f2.lo t.l, t.n⟩, r2, ?_⟩
          rw [← hbd] at h
          simp only at h
          rw [hbd] at h
          cases ea : asgT O T g its.us[i] ρ with
          | none => rw [ea] at h; exact h
          | some ρ' =>
            rw [ea] at h
            simp only at h ⊢
            refine fun σ' t' _ => ⟨φ, G2, O, ρ', T, t', ?_⟩
            cases eb : denB C O cb ρ' T with
            | nx ρ2 T2 => rw [eb] at h; exact fun σ3 φ3 G3 H3 f3 t3 => ⟨φ3, G3, ρ2, T2, (f.trans f2).trans f3, t3, h.later (f2.trans f3)⟩
            | ct ρ2 T2 => rw [eb] at h; exact fun σ3 φ3 G3 H3 f3 t3 => ⟨φ3, G3, ρ2, T2, (f.trans f2).trans f3, t3, h.later (f2.trans f3)⟩
            | bk ρ2 T2 => rw [eb] at h; exact h.later f2
            | rt u T2 => rw [eb] at h; exact h.later f2
            | exc => rw [eb] at h; exact h
            | fail => rw [eb] at h; exact h
      · rw [loopF, if_neg hw] at h
        exact h.elim
    · have e : i = its.us.length := by omega
      subst e
      rw [List.drop_length, loopF] at h
      by_cases hw : sameW O its.t T its.w = true
      · rw [if_pos hw] at h
        exact .inl ⟨(jok φ G H T f t.s hw).2, h σ φ G H Fut.refl t⟩
      · rw [if_neg hw] at h
        exact h.elim
end
end Y

set_option Elab.async false
set_option linter.all false
set_option maxRecDepth 100000
set_option maxHeartbeats 1000000
namespace Y
open PySem PySem.Spec L2
section
variable {ca : Nat → Addr} {φ φ' φ0 : List Addr} {G G' G0 H : Hp} {O T : Cs} {X : Cx} {K : PySem.W.Frag} {C : Cn} {σ : L2.St} {ρ : Rho} {D : Ends} {pos p apos cpos tpos : Pos} {a b e tg : Expr} {ea eb ec : CE}
/-- the items of a list, wherever it stands later -/
theorem list_at {x : U} {v : V} {us : List U} {T0 : Cs} (r : RpU G0 φ0 v x) (e : seqL O T0 x = some us) {φ : List Addr} {G H' : Hp} {T' : Cs} (f : Fut φ0 G0 φ G) (s : Sd ca φ G H' (O ++ T')) (hw : sameW O T0 T' (watch x) = true) :
    ∃ a vs, v = .ref a ∧ Rd H' a (.lst vs) ∧ RpUs G φ vs us := by
  unfold seqL at e
  split at e
  · cases e
    cases r with
    | d r => cases r with | lst h1 h2 => exact ⟨_, _, rfl, s.ex.rd (f.ex.rd h1), f.us h2.up⟩
  · cases r with
    | ref hi =>
      split at e
      · rename_i hc
        cases e
        obtain ⟨vs, h1, h2⟩ := cell_at s (f.pre _ _ hi) (sameW_eq hw hc)
        exact ⟨_, vs, rfl, .inl h1, h2.up⟩
      · rename_i hc
        cases e
        obtain ⟨vs, h1, h2⟩ := cell_at s (f.pre _ _ hi) (sameW_eq hw hc)
        exact ⟨_, vs, rfl, .inl h1, h2⟩
      · cases e
  · cases e
theorem itl_ok {x : U} {us : List U} {T0 : Cs} {a : Addr} (r : RpU G0 φ0 (.ref a) x) (e : seqL O T0 x = some us) : JOk ca (Itl K a) ⟨us, watch x, T0⟩ φ0 G0 O := by
  intro φ G H' T' f s hw
  obtain ⟨a', vs, ea, h1, h2⟩ := list_at r e f s hw
  cases ea
  refine ⟨fun i u hu => ?_, ⟨vs, .inl h1, Nat.le_of_eq h2.length⟩⟩
  obtain ⟨v', e1, e2⟩ := h2.get hu
  refine ⟨⟨vs, v', .inl h1, e1⟩, fun x' H2 hy => ?_⟩
  obtain ⟨rfl, hy⟩ := hy
  have := hy vs (.inl h1)
  rw [e1] at this
  cases this
  exact ⟨Ex.refl _, G, Fut.refl, s, e2⟩
theorem itt_ok {x : U} {us : List U} {T0 : Cs} {a : Addr} (r : RpU G0 φ0 (.ref a) x) (e : seqT x = some us) : JOk ca (Itt K a) ⟨us, none, T0⟩ φ0 G0 O := by
  intro φ G H' T' f s hw
  obtain ⟨a', vs, ea, h1, h2⟩ := seqT_ok s (f.u r) e
  cases ea
  have h1 : SqT K H' a vs := .inl (.inl h1)
  refine ⟨fun i u hu => ?_, ⟨vs, h1, Nat.le_of_eq h2.length⟩⟩
  obtain ⟨v', e1, e2⟩ := h2.get hu
  refine ⟨⟨vs, v', h1, e1⟩, fun x' H2 hy => ?_⟩
  obtain ⟨rfl, hy⟩ := hy
  have := hy vs h1
  rw [e1] at this
  cases this
  exact ⟨Ex.refl _, G, Fut.refl, s, e2⟩
theorem rngU_get {lo c : Int} {n i : Nat} {u : U} (h : (rngU lo n c)[i]? = some u) : i < n ∧ u = .d (.int (lo + (i : Nat) * c)) := by
  unfold rngU at h
  rw [List.getElem?_map] at h
  by_cases hi : i < n
  · rw [List.getElem?_range hi] at h
    cases h
    exact ⟨hi, rfl⟩
  · rw [List.getElem?_eq_none (by simp; omega)] at h
    cases h
theorem rngU_len {lo c : Int} {n : Nat} : (rngU lo n c).length = n := by simp [rngU]
theorem itr_ok {lo : Int} {n : Nat} {T0 : Cs} : JOk ca (Itr lo n) ⟨rngU lo n 1, none, T0⟩ φ0 G0 O := by
  intro φ G H' T' f s hw
  refine ⟨fun i u hu => ?_, by show n ≤ (rngU lo n 1).length; rw [rngU_len]; exact Nat.le_refl n⟩
  obtain ⟨h1, rfl⟩ := rngU_get hu
  refine ⟨h1, fun x' H2 hy => ?_⟩
  obtain ⟨rfl, rfl⟩ := hy
  rw [Int.mul_one]
  exact ⟨Ex.refl _, G, Fut.refl, s, .d (.int _)⟩
theorem itc_ok {lo c : Int} {n : Nat} {T0 : Cs} : JOk ca (Itc lo c n) ⟨rngU lo n c, none, T0⟩ φ0 G0 O := by
  intro φ G H' T' f s hw
  refine ⟨fun i u hu => ?_, by show n ≤ (rngU lo n c).length; rw [rngU_len]; exact Nat.le_refl n⟩
  obtain ⟨h1, rfl⟩ := rngU_get hu
  refine ⟨h1, fun x' H2 hy => ?_⟩
  obtain ⟨rfl, rfl⟩ := hy
  exact ⟨Ex.refl _, G, Fut.refl, s, .d (.int _)⟩
/-- a new tuple that a walk gives -/
theorem new_tup {φ : List Addr} {G H' : Hp} {S : Cs} {Tt : Addr} {vs : List V} {us : List U} (s : Sd ca φ G H' S) (nT : H' Tt = none) (r : RpUs G φ vs us) : Ex H' (upd H' Tt (.tup vs)) ∧ ∃ G', Fut φ G φ G' ∧ Sd ca φ G' (upd H' Tt (.tup vs)) S ∧ RpU G' φ (.ref Tt) (mkT us) := by
  refine ⟨Ex.new nT, upd G Tt (.tup vs), s.knowF nT, s.know nT, mkT_rp upd_same ((s.knowF nT).us r)⟩
theorem ite_ok {x : U} {us : List U} {T0 : Cs} {a : Addr} (r : RpU G0 φ0 (.ref a) x) (e : seqL O T0 x = some us) : JOk ca (Ite K a) ⟨us.zipIdx.map fun p => mkT [.d (.int (p.2 : Nat)), p.1], watch x, T0⟩ φ0 G0 O := by
  intro φ G H' T' f s hw
  obtain ⟨a', vs, ea, h1, h2⟩ := list_at r e f s hw
  cases ea
  refine ⟨fun i u hu => ?_, ⟨vs, .inl h1, by simp [h2.length]⟩⟩
  simp only [List.getElem?_map, List.getElem?_zipIdx, Option.map_map, Option.map_eq_some_iff] at hu
  obtain ⟨w, hw', rfl⟩ := hu
  obtain ⟨v', e1, e2⟩ := h2.get hw'
  refine ⟨⟨vs, v', .inl h1, e1⟩, fun x' H2 hy => ?_⟩
  obtain ⟨Tt, x2, rfl, nT, rfl, hy⟩ := hy
  have := hy vs (.inl h1)
  rw [e1] at this
  cases this
  simp only [Function.comp, Nat.zero_add]
  exact new_tup s nT (.cons (.d (.int _)) (.cons e2 .nil))
theorem itv_ok {x : U} {us : List U} {T0 : Cs} {a : Addr} {n : Nat} (hn : n = us.length) (r : RpU G0 φ0 (.ref a) x) (e : seqL O T0 x = some us) : JOk ca (Itv K a n) ⟨us.reverse, watch x, T0⟩ φ0 G0 O := by
  intro φ G H' T' f s hw
  obtain ⟨a', vs, ea, h1, h2⟩ := list_at r e f s hw
  cases ea
  subst hn
  refine ⟨fun i u hu => ?_, by show us.length ≤ us.reverse.length; simp⟩
  have lt : i < us.length := by
    have := (List.getElem?_eq_some_iff.mp hu).1
    simpa using this
  rw [List.getElem?_reverse lt] at hu
  obtain ⟨v', e1, e2⟩ := h2.get hu
  refine ⟨⟨lt, vs, v', .inl h1, e1⟩, fun x' H2 hy => ?_⟩
  obtain ⟨rfl, hy⟩ := hy
  have := hy vs (.inl h1)
  rw [e1] at this
  cases this
  exact ⟨Ex.refl _, G, Fut.refl, s, e2⟩
theorem its_ok {x : Str} {T0 : Cs} : JOk ca (L2.Its x) ⟨x.cps.toList.map fun c => .d (.str ⟨#[c]⟩), none, T0⟩ φ0 G0 O := by
  intro φ G H' T' f s hw
  refine ⟨fun i u hu => ?_, by show x.cps.size ≤ _; simp⟩
  simp only [List.getElem?_map, Option.map_eq_some_iff] at hu
  obtain ⟨c, hc, rfl⟩ := hu
  have hc' : x.cps[i]? = some c := by rw [← Array.getElem?_toList]; exact hc
  have lt : i < x.cps.size := by
    have := (List.getElem?_eq_some_iff.mp hc).1
    simpa using this
  refine ⟨lt, fun x' H2 hy => ?_⟩
  obtain ⟨rfl, c', hc2, rfl⟩ := hy
  rw [hc'] at hc2
  cases hc2
  exact ⟨Ex.refl _, G, Fut.refl, s, .d (.str _)⟩
theorem itz_ok {x y : U} {us ws : List U} {T0 : Cs} {a b : Addr} (r : RpU G0 φ0 (.ref a) x) (e : seqL O T0 x = some us) (r2 : RpU G0 φ0 (.ref b) y) (e2 : seqL O T0 y = some ws) (n1 : watch x = none) (n2 : watch y = none) :
    JOk ca (Itz K a b) ⟨(us.zip ws).map fun p => mkT [p.1, p.2], none, T0⟩ φ0 G0 O := by
  intro φ G H' T' f s hw
  obtain ⟨a', vs, ea, h1, h2⟩ := list_at r e f s (by rw [n1] <;> rfl)
  cases ea
  obtain ⟨b', zs, eb, k1, k2⟩ := list_at r2 e2 f s (by rw [n2] <;> rfl)
  cases eb
  refine ⟨fun i u hu => ?_, ⟨vs, zs, .inl h1, .inl k1, ?_⟩⟩
  · simp only [List.getElem?_map, Option.map_eq_some_iff] at hu
    obtain ⟨⟨u1, u2⟩, hz, rfl⟩ := hu
    obtain ⟨g1, g2⟩ := List.getElem?_zip_eq_some.mp hz
    obtain ⟨v1, q1, q2⟩ := h2.get g1
    obtain ⟨v2, q3, q4⟩ := k2.get g2
    refine ⟨⟨vs, zs, v1, v2, .inl h1, .inl k1, q1, q3⟩, fun x' H2 hy => ?_⟩
    obtain ⟨Tt, x1, x2, rfl, nT, rfl, hy1, hy2⟩ := hy
    have z1 := hy1 vs (.inl h1)
    have z2 := hy2 zs (.inl k1)
    rw [q1] at z1
    rw [q3] at z2
    cases z1
    cases z2
    exact new_tup s nT (.cons q2 (.cons q4 .nil))
  · simp only [List.length_map, List.length_zip]
    rw [h2.length, k2.length]
    omega
theorem itzT_ok {x y : U} {us ws : List U} {T0 : Cs} {a b : Addr} (r : RpU G0 φ0 (.ref a) x) (e : seqT x = some us) (r2 : RpU G0 φ0 (.ref b) y) (e2 : seqT y = some ws) :
    JOk ca (RZ.ItzT K a b) ⟨(us.zip ws).map fun p => mkT [p.1, p.2], none, T0⟩ φ0 G0 O := by
  intro φ G H' T' f s hw
  obtain ⟨a', vs, ea, h1, h2⟩ := seqT_ok s (f.u r) e
  cases ea
  have h1 : SqT K H' a vs := .inl (.inl h1)
  obtain ⟨b', zs, eb, k1, k2⟩ := seqT_ok s (f.u r2) e2
  cases eb
  have k1 : SqT K H' b zs := .inl (.inl k1)
  refine ⟨fun i u hu => ?_, ⟨vs, zs, h1, k1, ?_⟩⟩
  · simp only [List.getElem?_map, Option.map_eq_some_iff] at hu
    obtain ⟨⟨u1, u2⟩, hz, rfl⟩ := hu
    obtain ⟨g1, g2⟩ := List.getElem?_zip_eq_some.mp hz
    obtain ⟨v1, q1, q2⟩ := h2.get g1
    obtain ⟨v2, q3, q4⟩ := k2.get g2
    refine ⟨⟨vs, zs, v1, v2, h1, k1, q1, q3⟩, fun x' H2 hy => ?_⟩
    obtain ⟨Tt, x1, x2, rfl, nT, rfl, hy1, hy2⟩ := hy
    have z1 := hy1 vs h1
    have z2 := hy2 zs k1
    rw [q1] at z1
    rw [q3] at z2
    cases z1
    cases z2
    exact new_tup s nT (.cons q2 (.cons q4 .nil))
  · simp only [List.length_map, List.length_zip]
    rw [h2.length, k2.length]
    omega
theorem pi_li (h : PE X e (RE ca C ea)) : PI X tg e (RI ca C (.lst ea)) := (pi_list h).imp (by
  rintro σ H R ⟨φ, G, O, ρ, T, t, h⟩
  rw [denI] at h
  refine ⟨φ, G, O, ρ, T, t, ?_⟩
  cases e1 : den C O ρ ea T with
  | exc => rw [e1] at h; exact h
  | fail => rw [e1] at h; exact h
  | ok x T1 =>
    rw [e1] at h
    intro v φ1 G1 H1 f s r
    simp only [Y.R.bind_ok] at h
    cases e2 : seqL O T1 x with
    | none => rw [e2] at h; exact h.elim
    | some us =>
      rw [e2] at h
      obtain ⟨a, vs, rfl, ha, ra⟩ := seqL_ok s r e2
      exact ⟨a, rfl, ⟨vs, .inl ha⟩, h _ φ1 G1 H1 f s (itl_ok r e2)⟩)
theorem pi_tu (h : PE X e (RE ca C ea)) : PI X tg e (RI ca C (.tup ea)) := (pi_tup h).imp (by
  rintro σ H R ⟨φ, G, O, ρ, T, t, h⟩
  rw [denI] at h
  refine ⟨φ, G, O, ρ, T, t, ?_⟩
  cases e1 : den C O ρ ea T with
  | exc => rw [e1] at h; exact h
  | fail => rw [e1] at h; exact h
  | ok x T1 =>
    rw [e1] at h
    intro v φ1 G1 H1 f s r
    simp only [Y.R.bind_ok] at h
    cases e2 : seqT x with
    | none => rw [e2] at h; exact h.elim
    | some us =>
      rw [e2] at h
      obtain ⟨a, vs, rfl, ha, ra⟩ := seqT_ok s r e2
      exact ⟨a, rfl, ⟨vs, .inl (.inl ha)⟩, h _ φ1 G1 H1 f s (itt_ok r e2)⟩)
theorem pi_st (h : PE X e (RE ca C ea)) : PI X tg e (RI ca C (.str ea)) := (pi_str h).imp (by
  rintro σ H R ⟨φ, G, O, ρ, T, t, h⟩
  rw [denI] at h
  refine ⟨φ, G, O, ρ, T, t, ?_⟩
  cases e1 : den C O ρ ea T with
  | exc => rw [e1] at h; exact h
  | fail => rw [e1] at h; exact h
  | ok x T1 =>
    rw [e1] at h
    intro v φ1 G1 H1 f s r
    simp only [Y.R.bind_ok] at h
    split at h
    · have := rp_str r
      subst this
      exact ⟨_, rfl, h _ φ1 G1 H1 f s its_ok⟩
    · exact h.elim)
theorem rngOk_ok {i j : Int} (h : rngOk i j = true) : (-(2 ^ 62) ≤ i ∧ i < 2 ^ 62) ∧ -(2 ^ 62) ≤ j ∧ j < 2 ^ 62 := by
  simp only [rngOk, Bool.and_eq_true, decide_eq_true_eq] at h
  omega
/-- one argument, then the iterable -/
theorem ri_one {it : IT} {f : Cs → U → Cs → R Its} (hc : ∀ O ρ T, denI C O ρ it T = (den C O ρ ea T).bind fun x T => f O x T) {R : It → Hp → Prop} (h : RI ca C it σ H R) :
    ∃ φ G O ρ T, At ca φ G H O T σ ρ ∧ Pc ca rUs φ G O (denA C O ρ (.cons ea .nil) T) (fun vs H1 => ∃ φ G T v u, vs = [v] ∧ Sd ca φ G H1 (O ++ T) ∧ RpU G φ v u ∧ IOk ca φ G O (f O u T) R) := by
  obtain ⟨φ, G, O, ρ, T, t, h⟩ := h
  rw [hc] at h
  refine ⟨φ, G, O, ρ, T, t, ?_⟩
  simp only [denA]
  cases e1 : den C O ρ ea T with
  | exc => rw [e1] at h; exact h
  | fail => rw [e1] at h; exact h
  | ok x T1 =>
    rw [e1] at h
    simp only [Y.R.bind_ok] at h ⊢
    intro vs φ1 G1 H1 ff s r
    obtain ⟨v, rfl, r1⟩ := RpUs.one r
    exact ⟨φ1, G1, T1, v, x, rfl, s, r1, h.later ff⟩
theorem ri_two {it : IT} {f : Cs → U → U → Cs → R Its} (hc : ∀ O ρ T, denI C O ρ it T = (den C O ρ ea T).bind fun x T => (den C O ρ eb T).bind fun y T => f O x y T) {R : It → Hp → Prop} (h : RI ca C it σ H R) :
    ∃ φ G O ρ T, At ca φ G H O T σ ρ ∧ Pc ca rUs φ G O (denA C O ρ (.cons ea (.cons eb .nil)) T) (fun vs H1 => ∃ φ G T v w u z, vs = [v, w] ∧ Sd ca φ G H1 (O ++ T) ∧ RpU G φ v u ∧ RpU G φ w z ∧ IOk ca φ G O (f O u z T) R) := by
  obtain ⟨φ, G, O, ρ, T, t, h⟩ := h
  rw [hc] at h
  refine ⟨φ, G, O, ρ, T, t, ?_⟩
  simp only [denA]
  cases e1 : den C O ρ ea T with
  | exc => rw [e1] at h; exact h
  | fail => rw [e1] at h; exact h
  | ok x T1 =>
    rw [e1] at h
    simp only [Y.R.bind_ok] at h ⊢
    cases e2 : den C O ρ eb T1 with
    | exc => rw [e2] at h; exact h
    | fail => rw [e2] at h; exact h
    | ok y T2 =>
      rw [e2] at h
      simp only [Y.R.bind_ok] at h ⊢
      intro vs φ1 G1 H1 ff s r
      obtain ⟨v, w, rfl, r1, r2⟩ := RpUs.two r
      exact ⟨φ1, G1, T2, v, w, x, y, rfl, s, r1, r2, h.later ff⟩
theorem pi_r1 (hg : Gl X "range") (hm : X.mg "range" = none) (ha : PA X [a] (RA ca C (.cons ea .nil))) (hs : starEach [a] X.env = [(false, eval a X.env)]) : PI X tg (.Call (.Name "range" p) [a] [] pos) (RI ca C (.rng1 ea)) :=
  (pi_range1 hg hm ha hs).imp (by
    intro σ H R h
    obtain ⟨φ, G, O, ρ, T, t, h⟩ := ri_one (ea := ea) (f := fun O x T => match x with | .d (.int j) => if rngOk 0 j then .ok ⟨rngU 0 j.toNat 1, none, T⟩ T else .fail | _ => .fail) (fun O ρ T => by rw [denI] <;> rfl) h
    refine ⟨φ, G, O, ρ, T, t, Pc.imp h ?_⟩
    rintro vs H1 ⟨φ1, G1, T1, v, u, rfl, s, r, h⟩
    split at h
    · split at h
      · rename_i hk
        have e1 := rp_int r
        subst e1
        have := rngOk_ok hk
        exact ⟨_, rfl, this.2.1, this.2.2, h _ φ1 G1 H1 Fut.refl s itr_ok⟩
      · exact h.elim
    · exact h.elim)
theorem pi_r2 (hg : Gl X "range") (hm : X.mg "range" = none) (ha : PA X [a, b] (RA ca C (.cons ea (.cons eb .nil)))) (hs : starEach [a, b] X.env = [(false, eval a X.env), (false, eval b X.env)]) (hs2 : starEach [b] X.env = [(false, eval b X.env)]) :
    PI X tg (.Call (.Name "range" p) [a, b] [] pos) (RI ca C (.rng2 ea eb)) :=
  (pi_range2 hg hm ha hs hs2).imp (by
    intro σ H R h
    obtain ⟨φ, G, O, ρ, T, t, h⟩ := ri_two (ea := ea) (eb := eb) (f := fun O x y T => match x, y with | .d (.int i), .d (.int j) => if rngOk i j then .ok ⟨rngU i (j - i).toNat 1, none, T⟩ T else .fail | _, _ => .fail) (fun O ρ T => by rw [denI] <;> rfl) h
    refine ⟨φ, G, O, ρ, T, t, Pc.imp h ?_⟩
    rintro vs H1 ⟨φ1, G1, T1, v, w, u, z, rfl, s, r, r2, h⟩
    split at h
    · split at h
      · rename_i hk
        have e2 := rp_int r
        have e3 := rp_int r2
        subst e2 e3
        have := rngOk_ok hk
        exact ⟨_, _, rfl, ⟨this.1.1, this.1.2, this.2.1, this.2.2⟩, h _ φ1 G1 H1 Fut.refl s itr_ok⟩
      · exact h.elim
    · exact h.elim)
theorem pi_en {elts : List Expr} {kk : Nat} (hg : Gl X "enumerate") (hm : X.mg "enumerate" = none) (ha : PA X [a] (RA ca C (.cons ea .nil))) (hs : starEach [a] X.env = [(false, eval a X.env)]) : PI X (.Tuple elts kk tpos) (.Call (.Name "enumerate" p) [a] [] pos) (RI ca C (.enumL ea)) :=
  (pi_enum hg hm ha hs).imp (by
    intro σ H R h
    obtain ⟨φ, G, O, ρ, T, t, h⟩ := ri_one (ea := ea) (f := fun O x T => match seqL O T x with | some us => .ok ⟨us.zipIdx.map fun p => mkT [.d (.int (p.2 : Nat)), p.1], watch x, T⟩ T | none => .fail) (fun O ρ T => by rw [denI] <;> rfl) h
    refine ⟨φ, G, O, ρ, T, t, Pc.imp h ?_⟩
    rintro vs H1 ⟨φ1, G1, T1, v, u, rfl, s, r, h⟩
    cases e2 : seqL O T1 u with
    | none => rw [e2] at h; exact h.elim
    | some us =>
      rw [e2] at h
      obtain ⟨a, ys, rfl, hy, ry⟩ := seqL_ok s r e2
      exact ⟨a, ys, rfl, .inl hy, h _ φ1 G1 H1 Fut.refl s (ite_ok r e2)⟩)
theorem pi_rv (hg : Gl X "reversed") (hm : X.mg "reversed" = none) (ha : PA X [a] (RA ca C (.cons ea .nil))) (hs : starEach [a] X.env = [(false, eval a X.env)]) : PI X tg (.Call (.Name "reversed" p) [a] [] pos) (RI ca C (.revL ea)) :=
  (pi_reversed hg hm ha hs).imp (by
    intro σ H R h
    obtain ⟨φ, G, O, ρ, T, t, h⟩ := ri_one (ea := ea) (f := fun O x T => match seqL O T x with | some us => .ok ⟨us.reverse, watch x, T⟩ T | none => .fail) (fun O ρ T => by rw [denI] <;> rfl) h
    refine ⟨φ, G, O, ρ, T, t, Pc.imp h ?_⟩
    rintro vs H1 ⟨φ1, G1, T1, v, u, rfl, s, r, h⟩
    cases e2 : seqL O T1 u with
    | none => rw [e2] at h; exact h.elim
    | some us =>
      rw [e2] at h
      obtain ⟨a, ys, rfl, hy, ry⟩ := seqL_ok s r e2
      exact ⟨a, ys, rfl, .inl hy, h _ φ1 G1 H1 Fut.refl s (itv_ok ry.length r e2)⟩)
theorem pi_zi {elts : List Expr} {kk : Nat} (hg : Gl X "zip") (hm : X.mg "zip" = none) (ha : PA X [a, b] (RA ca C (.cons ea (.cons eb .nil)))) (hs : starEach [a, b] X.env = (false, eval a X.env) :: starEach [b] X.env) (hpl : (backTo pos (starEach [b] X.env)).any (·.1) = false) :
    PI X (.Tuple elts kk tpos) (.Call (.Name "zip" p) [a, b] [] pos) (RI ca C (.zipL ea eb)) :=
  (RZ.pi_zipA hg hm ha hs hpl).imp (by
    intro σ H R h
    obtain ⟨φ, G, O, ρ, T, t, h⟩ := ri_two (ea := ea) (eb := eb) (f := fun O x y T => match seqL O T x, seqL O T y, watch x, watch y with
      | some us, some ws, none, none => .ok ⟨(us.zip ws).map fun p => mkT [p.1, p.2], none, T⟩ T
      | _, _, _, _ => match seqT x, seqT y with
        | some us, some ws => .ok ⟨(us.zip ws).map fun p => mkT [p.1, p.2], none, T⟩ T
        | _, _ => .fail) (fun O ρ T => by rw [denI] <;> rfl) h
    refine ⟨φ, G, O, ρ, T, t, Pc.imp h ?_⟩
    rintro vs H1 ⟨φ1, G1, T1, v, w, u, z, rfl, s, r, r2, h⟩
    split at h
    · rename_i q1 q2 q3 q4
      · obtain ⟨a, ys, rfl, hy, ry⟩ := seqL_ok s r q1
        obtain ⟨b, zs, rfl, hz, rz⟩ := seqL_ok s r2 q2
        exact ⟨a, b, ys, zs, rfl, .inl ⟨.inl hy, .inl hz, h _ φ1 G1 H1 Fut.refl s (itz_ok r q1 r2 q2 q3 q4)⟩⟩
    · split at h
      · rename_i q1 q2
        obtain ⟨a, ys, rfl, hy, ry⟩ := seqT_ok s r q1
        obtain ⟨b, zs, rfl, hz, rz⟩ := seqT_ok s r2 q2
        exact ⟨a, b, ys, zs, rfl, .inr ⟨.inl (.inl hy), .inl (.inl hz), h _ φ1 G1 H1 Fut.refl s (itzT_ok r q1 r2 q2)⟩⟩
      · exact h.elim)
end
end Y

set_option Elab.async false
set_option linter.all false
set_option maxRecDepth 100000
set_option maxHeartbeats 1000000
namespace Y
open PySem PySem.Spec L2
section
variable {ca : Nat → Addr} {φ φ' φ0 : List Addr} {G G' G0 H : Hp} {O T : Cs} {X : Cx} {K : PySem.W.Frag} {C : Cn} {σ : L2.St} {ρ : Rho} {D : Ends} {pos p apos cpos tpos : Pos} {a b e tg : Expr} {ea eb ec : CE}
theorem Sd.recell {S : Cs} (s : Sd ca φ G H S) {i : Nat} {a : Addr} {c c' : Cell} (hi : φ[i]? = some a) (hc : S[i]? = some c) (hl : live c) (h : CellOk ca G φ H a c') : Sd ca φ G H (S.set i c') := by
  have lt := (List.getElem?_eq_some_iff.mp hc).1
  refine ⟨by simp [s.len], s.nd, s.ex, fun j b d h1 h2 h3 => ?_, s.kn, fun j b d h1 h2 => ?_⟩
  · by_cases e : j = i
    · subst e; rw [hi] at h1; cases h1; exact s.off _ _ _ hi hc hl
    · rw [List.getElem?_set_ne (Ne.symm e)] at h2; exact s.off j b d h1 h2 h3
  · by_cases e : j = i
    · subst e
      rw [hi] at h1; cases h1
      rw [List.getElem?_set_self lt] at h2; cases h2
      exact h
    · rw [List.getElem?_set_ne (Ne.symm e)] at h2; exact s.cell j b d h1 h2
theorem wipe_len (σ : L2.St) (vs : List Nat) : (wipe σ vs).length = σ.length := wipe_length σ vs
theorem set_wipe {σ : L2.St} {i : Nat} : ∀ {vs : List Nat}, i ∈ vs → (wipe σ vs).set i none = wipe σ vs
  | [], h => by simp at h
  | v :: vs, h => by
    unfold wipe
    by_cases e : i = v
    · subst e; rw [List.set_set]
    · have hv : i ∈ vs := (List.mem_cons.mp h).resolve_left e
      rw [List.set_comm _ _ (fun z => e z.symm), set_wipe hv]
theorem wipe_sub {σ : L2.St} {ws : List Nat} : ∀ {vs : List Nat}, (∀ i ∈ vs, i ∈ ws) → wipe (wipe σ ws) vs = wipe σ ws
  | [], _ => rfl
  | v :: vs, h => by
    show (wipe (wipe σ ws) vs).set v none = wipe σ ws
    rw [wipe_sub fun i hi => h i (List.mem_cons_of_mem _ hi), set_wipe (h v List.mem_cons_self)]
theorem wipe_wipe (σ : L2.St) (vs : List Nat) : wipe (wipe σ vs) vs = wipe σ vs := wipe_sub fun _ h => h
theorem wipeR_len (ρ : Rho) : ∀ vs : List Nat, (wipeR ρ vs).length = ρ.length
  | [] => rfl
  | v :: vs => by unfold wipeR; rw [List.length_set, wipeR_len ρ vs]
theorem wipeR_some {ρ : Rho} {i : Nat} {x : U} : ∀ {vs : List Nat}, (wipeR ρ vs)[i]? = some (some x) → ρ[i]? = some (some x) ∧ i ∉ vs
  | [], h => ⟨h, by simp⟩
  | v :: vs, h => by
    unfold wipeR at h
    by_cases hi : v = i
    · subst hi
      by_cases hv : v < (wipeR ρ vs).length
      · rw [List.getElem?_set_self hv] at h; cases h
      · rw [List.getElem?_eq_none (by simpa using hv)] at h; cases h
    · rw [List.getElem?_set_ne hi] at h
      obtain ⟨h1, h2⟩ := wipeR_some h
      exact ⟨h1, by simp only [List.mem_cons, not_or]; exact ⟨fun e => hi e.symm, h2⟩⟩
theorem wipe_get {σ : L2.St} {i : Nat} : ∀ {vs : List Nat}, i ∉ vs → (wipe σ vs)[i]? = σ[i]?
  | [], _ => rfl
  | v :: vs, h => by
    unfold wipe
    rw [List.getElem?_set_ne (fun e => h (by rw [e]; exact List.mem_cons_self)), wipe_get fun z => h (List.mem_cons_of_mem _ z)]
theorem At.wipe (t : At ca φ G H O T σ ρ) (vs : List Nat) : At ca φ G H O T (L2.wipe σ vs) (wipeR ρ vs) := by
  refine ⟨t.s, fun i u h => ?_, by rw [wipe_len, wipeR_len, t.n]⟩
  obtain ⟨h1, h2⟩ := wipeR_some h
  obtain ⟨v, e1, e2⟩ := t.l i u h1
  exact ⟨v, by rw [wipe_get h2]; exact e1, e2⟩
/-- any result: nothing is said of the value -/
def rAny {α : Type} (_ : Hp) (_ : List Addr) (_ : Unit) (_ : α) : Prop := True
theorem pts_no : PTs X [] (RT ca C (.c (.bool true))) := ⟨fun pins s σ H Q I h => pts_nil.run pins s σ H Q I (by
  obtain ⟨φ, G, O, ρ, T, t, h⟩ := h
  rw [den] at h
  exact Pc.now (a := true) h t.s rfl)⟩
/-- [elt for target in it if test] -/
theorem to_comp {elt tst : CE} {g : Tg} {it : IT} {own : List Nat} {l : Bool} (hsl : ∀ i ∈ slotsT g, i ∈ own) :
    ∀ σ H Q, RE ca C (.comp l elt g it tst own) σ H Q → tLc (RI ca C it) (RG ca g) (RT ca C tst) (RE ca C elt) own σ H Q := by
  rintro σ H Q ⟨φ, G, O, ρ, T, t, h⟩
  rw [den] at h
  refine ⟨φ, G, O, ρ, T, t, ?_⟩
  cases ei : denI C O ρ it T with
  | exc => rw [ei] at h; exact h
  | fail => rw [ei] at h; exact h
  | ok its T0 =>
    rw [ei] at h
    rw [Y.R.bind_ok] at h
    intro J φ1 G1 H1 f1 s1 jok Dl nD
    generalize hel : (fun u T => match asgT O T g u (wipeR ρ own) with
        | some ρ' => (den C O ρ' tst T).bind fun b T => brB (asB b) ((den C O ρ' elt T).bind fun y T => Y.R.ok (some y) T) (Y.R.ok none T)
        | none => Y.R.fail) = el at h
    have s2 := s1.cellNew (o := .lst []) (c := .lstU []) nD ⟨[], upd_same, .nil⟩
    rw [List.append_assoc] at s2
    have hlen : φ1.length = O.length + T0.length := by rw [s1.len, List.length_append]
    refine ⟨fun i m H => ∃ φ G T', Fut φ1 G1 φ G ∧ Sd ca φ G H (O ++ T') ∧ φ[O.length + T0.length]? = some Dl ∧ m = its.us.length - i ∧ i ≤ its.us.length ∧
      Pc ca rU φ1 G1 O ((compC el (fun T' => sameW O its.t T' its.w) T0.length (its.us.drop i) T').bind fun _ T' => compE O l T0 T') Q,
      ⟨its.us.length, φ1 ++ [Dl], G1, T0 ++ [.lstU []], Sd.newF, s2, by rw [← hlen]; simp, rfl, Nat.zero_le _, by rw [List.drop_zero]; exact h.later f1⟩, ?_⟩
    rintro i m H ⟨φ, G, T', f, s, hD, rfl, hi, h⟩
    have idx : O.length + T0.length - O.length = T0.length := by omega
    by_cases hw : sameW O its.t T' its.w = true
    · by_cases hlt : i < its.us.length
      · rw [List.drop_eq_getElem_cons hlt, compC, if_pos hw, R.bind_bind] at h
        have jj := (jok φ G H T' f s hw).1 i its.us[i] (List.getElem?_eq_getElem hlt)
        refine .inr ⟨jj.1, fun H' => ∃ φ G T', Fut φ1 G1 φ G ∧ Sd ca φ G H' (O ++ T') ∧ φ[O.length + T0.length]? = some Dl ∧
          Pc ca rU φ1 G1 O ((compC el (fun T' => sameW O its.t T' its.w) T0.length (its.us.drop (i + 1)) T').bind fun _ T' => compE O l T0 T') Q,
          fun H' hh => ⟨its.us.length - (i + 1), by omega, ?_⟩, fun x H' hy => ?_⟩
        · obtain ⟨φ2, G2, T2, a, b, c, d⟩ := hh
          exact ⟨φ2, G2, T2, a, b, c, rfl, hlt, d⟩
        · obtain ⟨_, G2, f2, s2, r2⟩ := jj.2 x H' hy
          have t2 : At ca φ G2 H' O T' (L2.wipe σ own) (wipeR ρ own) := At.wipe ⟨s2, (f1.trans (f.trans f2)).lo t.l, t.n⟩ own
          refine ⟨φ, G2, O, wipeR ρ own, T', its.us[i], t2, r2, ?_⟩
          rw [← hel] at h
          simp only at h
          rw [hel] at h
          cases ea : asgT O T' g its.us[i] (wipeR ρ own) with
          | none => rw [ea] at h; exact h
          | some ρ' =>
            rw [ea] at h
            simp only at h ⊢
            intro σ2 t3 sb
            have ew : L2.wipe σ2 own = L2.wipe σ own := (sb own hsl).trans (wipe_wipe σ own)
            refine ⟨ew, φ, G2, O, ρ', T', t3, ?_⟩
            rw [R.bind_bind] at h
            simp only [brB_bind] at h
            refine Pc.imp (Pc.keepBr (k := fun b T => if b = true then ((den C O ρ' elt T).bind fun y T => Y.R.ok (some y) T).bind fun oy T' => ((putC T0.length oy T').bind fun _ T'' => compC el (fun T' => sameW O its.t T' its.w) T0.length (its.us.drop (i + 1)) T'').bind fun _ T' => compE O l T0 T'
              else ((putC T0.length none T).bind fun _ T'' => compC el (fun T' => sameW O its.t T' its.w) T0.length (its.us.drop (i + 1)) T'').bind fun _ T' => compE O l T0 T') h) ?_
            rintro k H3 ⟨φ3, G3, T3, k', f3, s3, r3, h3⟩
            have r3 : k = k' := r3
            subst r3
            cases k with
            | false =>
              rw [if_neg Bool.false_ne_true] at h3 ⊢
              exact ⟨φ3, G3, T3, f.trans (f2.trans f3), s3, f3.pre _ _ hD, h3⟩
            | true =>
              rw [if_pos rfl] at h3 ⊢
              rw [R.bind_bind] at h3
              refine ⟨φ3, G3, O, ρ', T3, ⟨s3, f3.lo t3.l, t3.n⟩, Pc.imp h3.keep ?_⟩
              rintro y H4 ⟨φ4, G4, T4, u4, f4, s4, r4, h4⟩
              have hD4 := f4.pre _ _ (f3.pre _ _ hD)
              rw [Y.R.bind_ok] at h4
              unfold putC at h4
              cases ec : T4[T0.length]? with
              | none => simp only [ec] at h4; exact h4.elim
              | some c =>
                have ecS : (O ++ T4)[O.length + T0.length]? = some c := by
                  rw [List.getElem?_append_right (by omega), idx]; exact ec
                cases c with
                | lstU acc =>
                  simp only [ec] at h4
                  obtain ⟨vs, h1, h2⟩ := s4.cell _ _ _ hD4 ecS
                  by_cases hz : sizeOk acc.length = true
                  · rw [if_pos hz, Y.R.bind_ok] at h4
                    have hz := sizeOk_le hz
                    rw [← h2.length] at hz
                    refine ⟨vs, h1, sz_lt hz, φ4, G4, T4.set T0.length (.lstU (acc ++ [u4])), f.trans (f2.trans (f3.trans f4)), ?_, hD4, h4⟩
                    have := s4.write (o := .lst (vs ++ [y])) (c' := .lstU (acc ++ [u4])) hD4 ecS trivial ⟨_, upd_same, h2.append (.cons r4 .nil)⟩
                    rw [set_own _ _ _ _ (by omega), idx] at this
                    exact this
                  · rw [if_neg hz] at h4
                    exact h4.elim
                | lst _ => simp only [ec] at h4; exact h4.elim
                | dct _ => simp only [ec] at h4; exact h4.elim
                | dctU _ => simp only [ec] at h4; exact h4.elim
                | ins _ _ => simp only [ec] at h4; exact h4.elim
                | exn _ _ => simp only [ec] at h4; exact h4.elim
                | dead => simp only [ec] at h4; exact h4.elim
      · have e : i = its.us.length := by omega
        subst e
        rw [List.drop_length, compC, if_pos hw] at h
        refine .inl ⟨(jok φ G H T' f s hw).2, ?_⟩
        have h : Pc ca rU φ1 G1 O (compE O l T0 T') Q := h
        unfold compE at h
        cases ec : T'[T0.length]? with
        | none => simp only [ec] at h; exact h.elim
        | some c =>
          have ecS : (O ++ T')[O.length + T0.length]? = some c := by
            rw [List.getElem?_append_right (by omega), idx]; exact ec
          cases c with
          | lstU acc =>
            simp only [ec] at h
            obtain ⟨vs, h1, h2⟩ := s.cell _ _ _ hD ecS
            cases l with
            | true =>
              rw [if_pos rfl] at h
              have s' := s.recell hD ecS trivial (cellOf_ok h1 h2)
              rw [set_own _ _ _ _ (by omega), idx] at s'
              exact h _ φ G H f s' (.ref hD)
            | false =>
              rw [if_neg Bool.false_ne_true] at h
              cases ed : allD acc with
              | none => simp only [ed] at h; exact h.elim
              | some ds =>
                simp only [ed] at h
                have h3 := h2.down ed
                have s' := s.freeze (o := .lst vs) hD ecS trivial h1
                have ff := s.freezeF (o := .lst vs) hD ecS trivial
                rw [set_own _ _ _ _ (by omega), idx] at s'
                split at h
                · rename_i hb
                  simp only [Bool.and_eq_true, decide_eq_true_eq] at hb
                  have e1 := beqCs_eq _ _ hb.1
                  have e2 : T'.set T0.length .dead = T0 ++ [.dead] := by
                    have lt : T0.length < T'.length := by omega
                    have e3 : T' = T0 ++ [T'[T0.length]] := by
                      conv => lhs; rw [← List.take_append_drop T0.length T']
                      rw [e1, List.drop_eq_getElem_cons lt, List.drop_eq_nil_of_le (by omega)]
                    rw [e3]
                    rw [List.set_append_right (h := Nat.le_refl _)]
                    simp
                  rw [e2, ← List.append_assoc] at s'
                  have f' : Fut φ1 G1 φ (upd G Dl (.lst vs)) := f.trans ff
                  have s0 : Sd ca φ1 (upd G Dl (.lst vs)) H (O ++ T0) := Sd.drop s1 f' s'
                  have r0 : Rp (upd G Dl (.lst vs)) (.ref Dl) (.list ds) := .lst (.inl upd_same) (Rps.mono ff.ex _ _ h3)
                  exact h _ φ1 _ _ ⟨fun _ _ z => z, f'.ex⟩ s0 (.d r0)
                · exact h _ φ _ _ (f.trans ff) s' (.d (.lst (.inl upd_same) (Rps.mono ff.ex _ _ h3)))
          | lst _ => simp only [ec] at h; exact h.elim
          | dct _ => simp only [ec] at h; exact h.elim
          | dctU _ => simp only [ec] at h; exact h.elim
          | ins _ _ => simp only [ec] at h; exact h.elim
          | exn _ _ => simp only [ec] at h; exact h.elim
          | dead => simp only [ec] at h; exact h.elim
    · cases hd : its.us.drop i with
      | nil => rw [hd, compC, if_neg hw] at h; exact h.elim
      | cons u us => rw [hd, compC, if_neg hw] at h; exact h.elim
end
end Y

set_option Elab.async false
set_option linter.all false
set_option maxRecDepth 100000
set_option maxHeartbeats 1000000
namespace Y
open PySem PySem.Spec L2
section
variable {ca : Nat → Addr} {φ φ' φ0 : List Addr} {G G' G0 H : Hp} {O T : Cs} {X : Cx} {K : PySem.W.Frag} {C : Cn} {σ : L2.St} {ρ : Rho} {D : Ends} {pos p apos cpos tpos : Pos} {a b e tg o i : Expr} {ea eb ec eo : CE} {as : CA} {es : List Expr}
/-- what a def promises: it gives what its meaning gives -/
def spR (ca : Nat → Addr) (call : Cs → Nat → List U → Cs → R U) (f np : Nat) : Sp := fun vs H Q _ => ∃ φ G O T us, us.length = np ∧ Sd ca φ G H (O ++ T) ∧ RpUs G φ vs us ∧ Pc ca rU φ G O (call O f us T) Q
theorem callP_ok {f : Nat} {vs : List V} {us : List U} {np : Nat} {Q : VK} {E : XK} (hn : us.length = np) (h : Pc ca rU φ0 G0 O (callP C O f us T) Q) (ff : Fut φ0 G0 φ G) (s : Sd ca φ G H (O ++ T)) (r : RpUs G φ vs us) : spR ca C.call f np vs H Q E := by
  refine ⟨φ, G, O ++ T, [], us, hn, by rw [List.append_nil]; exact s, r, ?_⟩
  unfold callP at h
  cases e : C.call (O ++ T) f us [] with
  | exc => rw [e] at h; exact h
  | fail => rw [e] at h; exact h
  | ok u T' =>
    rw [e] at h
    intro v φ' G' H' f1 s' r'
    have h := h.later ff
    have s0 : Sd ca φ G' H' (O ++ T) := Sd.drop s f1 s'
    cases u with
    | d x =>
      cases r' with
      | d r' => exact h v φ G' H' ⟨fun _ _ z => z, f1.ex⟩ s0 (.d r')
    | tup us => exact h.elim
    | ref i =>
      simp only at h
      split at h
      · rename_i hi
        cases ec : getC (O ++ T) T' i with
        | none => simp only [ec] at h; exact h.elim
        | some c =>
          cases c with
          | lst ds =>
            simp only [ec] at h
            cases r' with
            | ref hr =>
              have ec2 := ec
              rw [getC_eq] at ec2
              obtain ⟨ws, h1, h2⟩ := s'.cell _ _ _ hr ec2
              have s2 := s'.freeze (o := .lst ws) hr ec2 trivial h1
              have f2 := s'.freezeF (o := .lst ws) hr ec2 trivial
              rw [set_own _ _ _ _ (by rw [List.length_append]; exact hi)] at s2
              have f3 := f1.trans f2
              exact h _ φ _ _ ⟨fun _ _ z => z, f3.ex⟩ (Sd.drop s f3 s2) (.d (.lst (.inl upd_same) (Rps.mono f2.ex _ _ h2)))
          | lstU _ => simp only [ec] at h; exact h.elim
          | dct _ => simp only [ec] at h; exact h.elim
          | dctU _ => simp only [ec] at h; exact h.elim
          | ins _ _ => simp only [ec] at h; exact h.elim
          | exn _ _ => simp only [ec] at h; exact h.elim
          | dead => simp only [ec] at h; exact h.elim
      · exact h.elim
theorem callL_ok {f : Nat} {vs : List V} {us : List U} {np : Nat} {Q : VK} {E : XK} (hn : us.length = np) (h : Pc ca rU φ0 G0 O (C.call O f us T) Q) (ff : Fut φ0 G0 φ G) (s : Sd ca φ G H (O ++ T)) (r : RpUs G φ vs us) : spR ca C.call f np vs H Q E :=
  ⟨φ, G, O, T, us, hn, s, r, h.later ff⟩
/-- the written defaults -/
theorem dv_ok {ds : List Y.D} {dvs : List V} (h : ∀ G, Rps G dvs ds) : RpUs G φ dvs (ds.map .d) := (h G).up
theorem to_call {f np : Nat} {l : Bool} {ds : List Y.D} {dvs : List V} {E : XK} (hd : ∀ G, Rps G dvs ds) (hlen : ∀ O us T, us.length ≠ np → C.call O f us T = .fail) :
    ∀ σ H Q, RE ca C (.call l f as ds) σ H Q → tCall (spR ca C.call f np) dvs E (RA ca C as) σ H Q := by
  rintro σ H Q ⟨φ, G, O, ρ, T, t, h⟩
  rw [den] at h
  refine ⟨φ, G, O, ρ, T, t, Pc.imp h.bind ?_⟩
  rintro vs H1 ⟨φ1, G1, T1, us, f1, s1, r1, h1⟩
  have r2 : RpUs G1 φ1 (vs ++ dvs) (us ++ ds.map U.d) := RpUs.append r1 (dv_ok hd)
  by_cases hn : (us ++ ds.map U.d).length = np
  · cases l with
    | true => rw [if_pos rfl] at h1; exact callL_ok hn h1 Fut.refl s1 r2
    | false => rw [if_neg Bool.false_ne_true] at h1; exact callP_ok hn h1 Fut.refl s1 r2
  · cases l with
    | true => rw [if_pos rfl, hlen _ _ _ hn] at h1; exact h1.elim
    | false =>
      rw [if_neg Bool.false_ne_true] at h1
      unfold callP at h1
      rw [hlen _ _ _ hn] at h1
      exact h1.elim
theorem ins_at (s : Sd ca φ G H (O ++ T)) {u : U} {v : V} {c : Nat} (r : RpU G φ v u) (e : clsOf O T u = some c) : ∃ i a dx fs ws, u = .ref i ∧ v = .ref a ∧ φ[i]? = some a ∧ getC O T i = some (.ins c fs) ∧ H a = some (.ins (ca c) dx ws) ∧ RpF G φ ws fs := by
  unfold clsOf at e
  split at e
  · cases r with
    | ref hi =>
      split at e
      · rename_i hc
        cases e
        obtain ⟨dx, ws, h1, h2⟩ := cell_at s hi hc
        exact ⟨_, _, dx, _, ws, rfl, rfl, hi, hc, h1, h2⟩
      · cases e
  · cases e
theorem RpF.look : ∀ {ws : List (Str × V)} {fs : List (Str × U)} (f : Str), RpF G φ ws fs → (fs.lookup f = none ∧ ws.lookup f = none) ∨ ∃ u v, fs.lookup f = some u ∧ ws.lookup f = some v ∧ RpU G φ v u
  | _, _, f, .nil => .inl ⟨rfl, rfl⟩
  | _, _, f, .cons (k := k) h t => by
    simp only [List.lookup_cons]
    cases e : f == k with
    | true => exact .inr ⟨_, _, rfl, rfl, h⟩
    | false => exact RpF.look f t
theorem RpF.len : ∀ {ws : List (Str × V)} {fs : List (Str × U)}, RpF G φ ws fs → ws.length = fs.length
  | _, _, .nil => rfl
  | _, _, .cons _ t => by simp [RpF.len t]
theorem RpF.put {v : V} {u : U} (r : RpU G φ v u) (f : Str) : ∀ {ws : List (Str × V)} {fs : List (Str × U)}, RpF G φ ws fs → RpF G φ (putF f v ws) (putFU f u fs)
  | _, _, .nil => .cons r .nil
  | _, _, .cons (k := k) h t => by
    unfold putF putFU
    by_cases e : k = f
    · rw [if_pos e, if_pos e]; exact .cons r t
    · rw [if_neg e, if_neg e]; exact .cons h (RpF.put r f t)
theorem to_fld {c : Nat} {f : Str} (hc : Cls K (ca c)) (hn : NoAttr K (ca c) f) : ∀ σ H Q, RE ca C (.fld c eo f) σ H Q → tFld K (RE ca C eo) f σ H Q := by
  rintro σ H Q ⟨φ, G, O, ρ, T, t, h⟩
  rw [den] at h
  refine ⟨φ, G, O, ρ, T, t, Pc.imp h.bind ?_⟩
  rintro v H1 ⟨φ1, G1, T1, u, f1, s1, r1, h1⟩
  by_cases hk : clsOf O T1 u = some c
  · rw [if_pos hk] at h1
    obtain ⟨i, a, dx, fs, ws, rfl, rfl, hi, hg, h2, h3⟩ := ins_at s1 r1 hk
    have e : fldU O (.ref i) f T1 = fs.lookup f := by unfold fldU; simp only [hg]
    rw [e] at h1
    rcases h3.look f with ⟨e1, e2⟩ | ⟨u', v', e1, e2, e3⟩
    · rw [e1] at h1; exact h1.elim
    · rw [e1] at h1
      exact ⟨a, ca c, dx, ws, v', rfl, h2, hc, hn, e2, Pc.now h1 s1 e3⟩
  · rw [if_neg hk] at h1; exact h1.elim
theorem to_setf {c : Nat} {f : Str} (hc : Cls K (ca c)) (hn : NoAttr K (ca c) f) : ∀ D σ H, RS ca C (.setf c eo f ea) D σ H → sFld K (RE ca C eo) (RE ca C ea) f D σ H := by
  rintro D σ H ⟨φ, G, O, ρ, T, t, h⟩
  rw [denS] at h
  refine ⟨φ, G, O, ρ, T, t, Pc.imp h.of ?_⟩
  rintro v H1 ⟨φ1, G1, T1, u, f1, s1, r1, h1⟩
  refine ⟨φ1, G1, O, ρ, T1, ⟨s1, f1.lo t.l, t.n⟩, Pc.imp h1.of ?_⟩
  rintro x H2 ⟨φ2, G2, T2, w, f2, s2, r2, h2⟩
  by_cases hk : clsOf O T2 w = some c
  · rw [if_pos hk] at h2
    obtain ⟨i, a, dx, fs, ws, rfl, rfl, hi, hg, h3, h4⟩ := ins_at s2 r2 hk
    have e : setfU O (.ref i) f u T2 = if fs.length < 100 then setC O T2 i (.ins c (putFU f u fs)) else .fail := by unfold setfU; simp only [hg]
    rw [e] at h2
    by_cases hz : fs.length < 100
    · rw [if_pos hz] at h2
      refine ⟨a, ca c, dx, ws, rfl, h3, hc, hn, by rw [h4.len]; omega, ?_⟩
      unfold setC at h2
      split at h2
      · rename_i hb
        have hg' := hg
        rw [getC_eq] at hg'
        have s' := s2.write (o := .ins (ca c) dx (putF f v ws)) (c' := .ins c (putFU f u fs)) hi hg' trivial ⟨dx, _, upd_same, h4.put (f2.u r1) f⟩
        rw [set_own _ _ _ _ hb.1] at s'
        rw [F.of_ok] at h2
        exact h2 σ φ2 G2 _ Fut.refl ⟨s', (f1.trans f2).lo t.l, t.n⟩
      · exact h2.elim
    · rw [if_neg hz] at h2; exact h2.elim
  · rw [if_neg hk] at h2; exact h2.elim
theorem to_augf {c : Nat} {f : Str} (hc : Cls K (ca c)) (hn : NoAttr K (ca c) f) : ∀ D σ H, RS ca C (.augf c eo f ea) D σ H → sFldAug K (RE ca C eo) (RE ca C ea) rAdd f D σ H := by
  rintro D σ H ⟨φ, G, O, ρ, T, t, h⟩
  rw [denS] at h
  refine ⟨φ, G, O, ρ, T, t, Pc.imp h.of ?_⟩
  rintro x H1 ⟨φ1, G1, T1, u, f1, s1, r1, h1⟩
  by_cases hk : clsOf O T1 u = some c
  · rw [if_pos hk] at h1
    obtain ⟨i, a, dx, fs, ws, rfl, rfl, hi, hg, h3, h4⟩ := ins_at s1 r1 hk
    have e : fldU O (.ref i) f T1 = fs.lookup f := by unfold fldU; simp only [hg]
    rw [e] at h1
    split at h1
    · rename_i n hl
      rcases h4.look f with ⟨e1, e2⟩ | ⟨u', v', e1, e2, e3⟩
      · rw [e1] at hl; cases hl
      · rw [e1] at hl
        cases hl
        have := rp_int e3; subst this
        refine ⟨a, ca c, dx, ws, _, rfl, h3, hc, hn, e2, φ1, G1, O, ρ, T1, ⟨s1, f1.lo t.l, t.n⟩, Pc.imp h1.of ?_⟩
        rintro y H2 ⟨φ2, G2, T2, w, f2, s2, r2, h2⟩
        split at h2
        · rename_i j
          have := rp_int r2; subst this
          refine ⟨n, j, rfl, rfl, ?_⟩
          by_cases hk2 : clsOf O T2 (.ref i) = some c
          · rw [if_pos hk2] at h2
            obtain ⟨i', a', dx', fs', ws', ei, ea', hi', hg', h3', h4'⟩ := ins_at s2 (f2.u r1) hk2
            cases ei
            cases ea'
            have e : setfU O (.ref i) f (.d (.int (n + j))) T2 = if fs'.length < 100 then setC O T2 i (.ins c (putFU f (.d (.int (n + j))) fs')) else .fail := by unfold setfU; simp only [hg']
            rw [e] at h2
            by_cases hz : fs'.length < 100
            · rw [if_pos hz] at h2
              refine ⟨dx', ws', h3', by rw [h4'.len]; omega, ?_⟩
              unfold setC at h2
              split at h2
              · rename_i hb
                rw [getC_eq] at hg'
                have s' := s2.write (o := .ins (ca c) dx' (putF f (.int (n + j)) ws')) (c' := .ins c (putFU f (.d (.int (n + j))) fs')) hi' hg' trivial ⟨dx', _, upd_same, h4'.put (.d (.int _)) f⟩
                rw [set_own _ _ _ _ hb.1] at s'
                rw [F.of_ok] at h2
                exact h2 σ φ2 G2 _ Fut.refl ⟨s', (f1.trans f2).lo t.l, t.n⟩
              · exact h2.elim
            · rw [if_neg hz] at h2; exact h2.elim
          · rw [if_neg hk2] at h2; exact h2.elim
        · exact h2.elim
    · exact h1.elim
  · rw [if_neg hk] at h1; exact h1.elim
/-- o.m(..), o an instance of a class of the text -/
theorem to_mcall {c f np : Nat} {m : Str} {E : XK} (hlen : ∀ O us T, us.length ≠ np → C.call O f us T = .fail) :
    ∀ σ H Q, RE ca C (.mcall c f m eo as) σ H Q → tMeth (ca c) m (spR ca C.call f np) [] E (RE ca C eo) (RA ca C as) σ H Q := by
  rintro σ H Q ⟨φ, G, O, ρ, T, t, h⟩
  rw [den] at h
  refine ⟨φ, G, O, ρ, T, t, Pc.imp h.bind ?_⟩
  rintro v H1 ⟨φ1, G1, T1, u, f1, s1, r1, h1⟩
  by_cases hk : clsOf O T1 u = some c ∧ (fldU O u m T1).isNone = true
  · rw [if_pos hk] at h1
    obtain ⟨i, a, dx, fs, ws, rfl, rfl, hi, hg, h2, h3⟩ := ins_at s1 r1 hk.1
    have e : fldU O (.ref i) m T1 = fs.lookup m := by unfold fldU; simp only [hg]
    have hnone : ws.lookup m = none := by
      rcases h3.look m with ⟨e1, e2⟩ | ⟨u', v', e1, e2, e3⟩
      · exact e2
      · rw [e, e1] at hk; simp at hk
    refine ⟨a, dx, ws, rfl, h2, hnone, φ1, G1, O, ρ, T1, ⟨s1, f1.lo t.l, t.n⟩, Pc.imp h1.bind ?_⟩
    rintro vs H2 ⟨φ2, G2, T2, us, f2, s2, r2, h2⟩
    rw [List.append_nil]
    by_cases hn : (U.ref i :: us).length = np
    · exact callL_ok hn h2 Fut.refl s2 (.cons (f2.u r1) r2)
    · rw [hlen _ _ _ hn] at h2; exact h2.elim
  · rw [if_neg hk] at h1; exact h1.elim
/-- C(..) -/
theorem to_mk {c f np : Nat} {E : XK} (hlen : ∀ O us T, us.length ≠ np → C.make O f us T = .fail) :
    ∀ σ H Q, RE ca C (.mk c f as) σ H Q → tMake (ca c) (spR ca C.make f np) [] E (RA ca C as) σ H Q := by
  rintro σ H Q ⟨φ, G, O, ρ, T, t, h⟩
  rw [den] at h
  refine ⟨φ, G, O, ρ, T, t, Pc.imp h.bind ?_⟩
  rintro vs H1 ⟨φ1, G1, T1, us, f1, s1, r1, h1⟩
  intro x dx nx ndx hne
  rw [List.append_nil]
  by_cases hn : (U.ref (O.length + T1.length) :: us).length = np
  · have s2 : Sd ca φ1 G1 (upd H1 dx (.own x)) (O ++ T1) := s1.grow ndx
    have nx2 : upd H1 dx (.own x) x = none := by rw [upd_ne (fun e => hne e.symm)]; exact nx
    have s3 := s2.cellNew (o := .ins (ca c) dx []) (c := .ins c []) nx2 ⟨dx, [], upd_same, .nil⟩
    rw [List.append_assoc] at s3
    have hlen2 : φ1.length = O.length + T1.length := by rw [s1.len, List.length_append]
    have hx : (φ1 ++ [x])[O.length + T1.length]? = some x := by rw [← hlen2]; simp
    refine ⟨φ1 ++ [x], G1, O, T1 ++ [.ins c []], _, hn, s3, .cons (.ref hx) (Sd.newF.us r1), ?_⟩
    refine Pc.imp (h1.later Sd.newF).bind ?_
    rintro v H2 ⟨φ2, G2, T2, u, f2, s2', r2, h2⟩
    by_cases hv : isNone u = true
    · rw [if_pos hv] at h2
      have r2 : RpU G2 φ2 v u := r2
      rw [isNone_iff r2, decide_eq_true_eq] at hv
      exact ⟨hv, Pc.now h2 s2' (.ref (f2.pre _ _ hx))⟩
    · rw [if_neg hv] at h2; exact h2.elim
  · rw [hlen _ _ _ hn] at h1; exact h1.elim
def rSet3 (ca : Nat → Addr) : TSet := fun ov iv vv H Q => ∃ φ G O T uo ui uv, Sd ca φ G H (O ++ T) ∧ RpU G φ ov uo ∧ RpU G φ iv ui ∧ RpU G φ vv uv ∧ Pc ca rU φ G O (setiU O uo ui uv T) (fun _ H' => Q H')
theorem RpK.put {v : V} {u : U} (r : RpU G φ v u) (k : Ky) {ws : List (List Key × V)} {kvs : List (Ky × U)} (h : RpK G φ ws kvs) : RpK G φ (L2.putK ws k v) (Y.putK kvs k u) := by
  unfold L2.putK Y.putK
  have e : ∀ {ws : List (List Key × V)} {kvs : List (Ky × U)}, RpK G φ ws kvs → (ws.any fun kv => decide (kv.1 = k)) = kvs.any fun p => decide (p.1 = k) := by
    intro ws kvs h
    induction h with
    | nil => rfl
    | cons h t ih => simp [List.any_cons, ih]
  rw [e h]
  have m : ∀ {ws : List (List Key × V)} {kvs : List (Ky × U)}, RpK G φ ws kvs → RpK G φ (ws.map fun kv => if kv.1 = k then (kv.1, v) else kv) (kvs.map fun p => if p.1 = k then (p.1, u) else p) := by
    intro ws kvs h
    induction h with
    | nil => exact .nil
    | @cons k' v' u' ws kvs h t ih =>
      simp only [List.map_cons]
      by_cases e : k' = k
      · rw [if_pos e, if_pos e]; exact .cons r ih
      · rw [if_neg e, if_neg e]; exact .cons h ih
  have ap : ∀ {ws : List (List Key × V)} {kvs : List (Ky × U)}, RpK G φ ws kvs → RpK G φ (ws ++ [(k, v)]) (kvs ++ [(k, u)]) := by
    intro ws kvs h
    induction h with
    | nil => exact .cons r .nil
    | cons h t ih => exact .cons h ih
  by_cases hb : (kvs.any fun p => decide (p.1 = k)) = true
  · rw [if_pos hb, if_pos hb]; exact m h
  · rw [if_neg hb, if_neg hb]; exact ap h
theorem putK_mapD (kvs : List (Ky × Y.D)) (k : Ky) (x : Y.D) : (Y.putK kvs k x).map (fun p => (p.1, U.d p.2)) = Y.putK (kvs.map fun p => (p.1, U.d p.2)) k (.d x) := by
  unfold Y.putK
  rw [List.any_map]
  have e : ((fun p : Ky × U => decide (p.1 = k)) ∘ fun p : Ky × Y.D => (p.1, U.d p.2)) = fun p => decide (p.1 = k) := rfl
  rw [e]
  by_cases hb : (kvs.any fun p => decide (p.1 = k)) = true
  · rw [if_pos hb, if_pos hb, List.map_map, List.map_map]
    congr 1
    funext p
    simp only [Function.comp]
    by_cases h : p.1 = k
    · rw [if_pos h, if_pos h]
    · rw [if_neg h, if_neg h]
  · rw [if_neg hb, if_neg hb, List.map_append]
    rfl
theorem set_any (hu : X.A.units + 65 < cLine) : PSet X (rSet3 ca) := by
  rintro pins s σ H o i v ov iv u Q I ro ri rv ⟨φ, G, O, T, uo, ui, uv, sd, r1, r2, r3, h⟩
  unfold setiU at h
  split at h
  · cases r1 with
    | ref hi =>
      split at h
      · rename_i ds hc
        obtain ⟨vs, h1, h2⟩ := cell_at sd hi hc
        split at h
        · have := rp_int r2; subst this
          split at h
          · rename_i j hj
            rw [← h2.length] at hj
            split at h
            · cases r3 with
              | d r3 =>
                have h3 : ∀ x, Rp G v x → Rps G (vs.set j v) (ds.set j x) := fun x r => by
                  have := (h2.up (φ := φ)).set (.d r) j
                  rw [← List.map_set] at this
                  exact this.downD
                exact set_list pins s σ H _ _ _ _ _ _ _ I ro ri rv ⟨_, vs, _, j, rfl, rfl, h1, hj, setC_ok h sd hi hc live_lst ⟨_, upd_same, h3 _ r3⟩⟩
            · exact set_list pins s σ H _ _ _ _ _ _ _ I ro ri rv ⟨_, vs, _, j, rfl, rfl, h1, hj, setC_ok h sd hi hc live_lst ⟨_, upd_same, h2.up.set r3 j⟩⟩
          · exact h.elim
        · exact h.elim
      · rename_i ds hc
        obtain ⟨vs, h1, h2⟩ := cell_at sd hi hc
        split at h
        · have := rp_int r2; subst this
          split at h
          · rename_i j hj
            rw [← h2.length] at hj
            exact set_list pins s σ H _ _ _ _ _ _ _ I ro ri rv ⟨_, vs, _, j, rfl, rfl, h1, hj, setC_ok h sd hi hc live_lstU ⟨_, upd_same, h2.set r3 j⟩⟩
          · exact h.elim
        · exact h.elim
      · rename_i kvs hc
        obtain ⟨ws, h1, h2⟩ := cell_at sd hi hc
        split at h
        · rename_i k hk
          obtain ⟨b, rfl, hb⟩ := keyU_ok sd r2 hk
          split at h
          · rename_i hz
            have hz := sizeOk_le hz
            have hl : ws.length ≤ 1000000 := by rw [h2.length]; simpa using hz
            split at h
            · cases r3 with
              | d r3 =>
                obtain rfl : ov = Value.ref _ := ro
                refine d_setItem (by omega) I (DPut.t h1 hb (sz_lt hl)) ri rv fun s' I' => ⟨_, I', setC_ok h sd hi hc trivial ⟨_, upd_same, ?_⟩⟩
                rw [putK_mapD]
                exact h2.put (.d r3) k
            · split at h
              · rename_i he
                have e0 : kvs = [] := by simpa using he
                subst e0
                cases h2
                obtain rfl : ov = Value.ref _ := ro
                exact d_setItem (by omega) I (DPut.t h1 hb (sz_lt hl)) ri rv fun s' I' => ⟨_, I', setC_ok h sd hi hc trivial ⟨_, upd_same, .cons r3 .nil⟩⟩
              · exact h.elim
          · exact h.elim
        · exact h.elim
      · rename_i kvs hc
        obtain ⟨ws, h1, h2⟩ := cell_at sd hi hc
        split at h
        · rename_i k hk
          obtain ⟨b, rfl, hb⟩ := keyU_ok sd r2 hk
          split at h
          · rename_i hz
            have hz := sizeOk_le hz
            have hl : ws.length ≤ 1000000 := by rw [h2.length]; exact hz
            obtain rfl : ov = Value.ref _ := ro
            exact d_setItem (by omega) I (DPut.t h1 hb (sz_lt hl)) ri rv fun s' I' => ⟨_, I', setC_ok h sd hi hc trivial ⟨_, upd_same, h2.put r3 k⟩⟩
          · exact h.elim
        · exact h.elim
      · exact h.elim
  · exact h.elim
theorem to_seti : ∀ D σ H, RS ca C (.seti eo ec ea) D σ H → tAsg (RE ca C ea) (gSub (RE ca C eo) (RE ca C ec) (rSet3 ca)) D σ H := by
  rintro D σ H ⟨φ, G, O, ρ, T, t, h⟩
  rw [denS] at h
  refine ⟨φ, G, O, ρ, T, t, Pc.imp h.of ?_⟩
  rintro v H1 ⟨φ1, G1, T1, u, f1, s1, r1, h1⟩
  refine ⟨φ1, G1, O, ρ, T1, ⟨s1, f1.lo t.l, t.n⟩, Pc.imp h1.of ?_⟩
  rintro x H2 ⟨φ2, G2, T2, w, f2, s2, r2, h2⟩
  refine ⟨φ2, G2, O, ρ, T2, ⟨s2, (f1.trans f2).lo t.l, t.n⟩, Pc.imp h2.of ?_⟩
  rintro y H3 ⟨φ3, G3, T3, z, f3, s3, r3, h3⟩
  refine ⟨φ3, G3, O, T3, w, z, u, s3, f3.u r2, r3, (f2.trans f3).u r1, Pc.imp h3.of ?_⟩
  rintro vv H4 ⟨φ4, G4, T4, q, f4, s4, r4, h4⟩
  exact h4 σ φ4 G4 H4 Fut.refl ⟨s4, (f1.trans (f2.trans (f3.trans f4))).lo t.l, t.n⟩
theorem to_frz : ∀ σ H Q, RE ca C (.frz ea) σ H Q → RE ca C ea σ H Q := by
  rintro σ H Q ⟨φ, G, O, ρ, T, t, h⟩
  rw [den] at h
  refine ⟨φ, G, O, ρ, T, t, Pc.imp h.bind ?_⟩
  rintro v H1 ⟨φ1, G1, T1, u, f1, s1, r1, h1⟩
  unfold frzU at h1
  split at h1
  · split at h1
    · rename_i ds hc
      cases r1 with
      | ref hi =>
        obtain ⟨vs, h2, h3⟩ := cell_at s1 hi hc
        unfold setC at h1
        split at h1
        · rename_i hb
          have hc' := hc
          rw [getC_eq] at hc'
          have s' := s1.freeze (o := .lst vs) hi hc' trivial h2
          have ff := s1.freezeF (o := .lst vs) hi hc' trivial
          rw [set_own _ _ _ _ hb.1] at s'
          exact h1 _ φ1 _ H1 ff s' (.d (.lst (.inl upd_same) (Rps.mono ff.ex _ _ h3)))
        · exact h1.elim
    · exact h1.elim
  · exact Pc.now h1 s1 r1
theorem pe_di : PE X (.Dict [] [] pos) (RE ca C .dict0) := pe_dnewT.imp (by
  rintro σ H Q ⟨φ, G, O, ρ, T, t, h⟩
  rw [den] at h
  intro p np
  have s' := t.s.cellNew (o := .dT []) (c := .dct []) np ⟨[], upd_same, .nil⟩
  rw [List.append_assoc] at s'
  refine h (.ref p) (φ ++ [p]) G _ Sd.newF s' (.ref ?_)
  have e := t.s.len
  rw [List.length_append] at e
  rw [← e]
  simp)
/-- a part of a slice -/
def RP (ca : Nat → Addr) (C : Cn) (c : CE) : TO := fun σ H Q => ∃ φ G O ρ T, At ca φ G H O T σ ρ ∧ Pc ca (fun _ _ (a b : Option Int) => a = b) φ G O (if isSkip c then .ok none T else (den C O ρ c T).bind fun l T => partU l T) Q
theorem po_sk : PO X none (RP ca C .skip) := ⟨fun pins s σ H Q I h => po_none.run pins s σ H Q I (by
  obtain ⟨φ, G, O, ρ, T, t, h⟩ := h
  exact Pc.now (a := none) h t.s rfl)⟩
theorem po_e (h : PE X e (RE ca C ec)) (hs : isSkip ec = false) : PO X (some e) (RP ca C ec) := ⟨fun pins s σ H Q I q => (po_some h).run pins s σ H Q I (by
  obtain ⟨φ, G, O, ρ, T, t, q⟩ := q
  rw [hs, if_neg Bool.false_ne_true] at q
  refine ⟨φ, G, O, ρ, T, t, Pc.imp q.bind ?_⟩
  rintro v H1 ⟨φ1, G1, T1, u, f1, s1, r1, h1⟩
  unfold partU at h1
  split at h1
  · have := rp_int r1
    exact ⟨_, this, Pc.now h1 s1 rfl⟩
  · exact h1.elim)⟩
theorem to_slc {l : Bool} : ∀ σ H Q, RE ca C (.slc l ea eb ec) σ H Q → tSl (rSl ca l) (RE ca C ea) (RP ca C eb) (RP ca C ec) σ H Q := by
  rintro σ H Q ⟨φ, G, O, ρ, T, t, h⟩
  rw [den] at h
  refine ⟨φ, G, O, ρ, T, t, Pc.imp h.bind ?_⟩
  rintro v H1 ⟨φ1, G1, T1, u, f1, s1, r1, h1⟩
  refine ⟨φ1, G1, O, ρ, T1, ⟨s1, f1.lo t.l, t.n⟩, Pc.imp h1.bind ?_⟩
  rintro lo H2 ⟨φ2, G2, T2, w, f2, s2, r2, h2⟩
  have r2 : lo = w := r2
  subst r2
  refine ⟨φ2, G2, O, ρ, T2, ⟨s2, (f1.trans f2).lo t.l, t.n⟩, Pc.imp h2.bind ?_⟩
  rintro hi H3 ⟨φ3, G3, T3, w, f3, s3, r3, h3⟩
  have r3 : hi = w := r3
  subst r3
  exact ⟨φ3, G3, O, T3, u, s3, (f2.trans f3).u r1, h3⟩
theorem tyU_is (s : Sd ca φ G H (O ++ T)) {u : U} {v : V} {m : MT} (r : RpU G φ v u) (hm : mtTy m ≠ .tuple) (e : tyU O T u = some (mtTy m)) : tyV K (tyS (mtTy m)) v H := by
  cases em : mtTy m with
  | list =>
    rw [em] at e
    cases u with
    | d x =>
      cases x <;> simp only [tyU, Option.some.injEq, reduceCtorEq] at e
      cases r with
      | d r => cases r with | lst h1 h2 => exact .inl ⟨rfl, _, .inl (s.ex.rd h1)⟩
    | tup us => simp [tyU] at e
    | ref i =>
      simp only [tyU] at e
      cases r with
      | ref hi =>
        split at e
        · rename_i hc; obtain ⟨vs, h1, _⟩ := cell_at s hi hc; exact .inl ⟨rfl, _, .inl (.inl h1)⟩
        · rename_i hc; obtain ⟨vs, h1, _⟩ := cell_at s hi hc; exact .inl ⟨rfl, _, .inl (.inl h1)⟩
        · cases e
        · cases e
        · cases e
  | dict =>
    rw [em] at e
    cases u with
    | d x => cases x <;> simp [tyU] at e
    | tup us => simp [tyU] at e
    | ref i =>
      simp only [tyU] at e
      cases r with
      | ref hi =>
        split at e
        · cases e
        · cases e
        · rename_i hc; obtain ⟨vs, h1, _⟩ := cell_at s hi hc; exact .inr (.inr (.inl ⟨rfl, .inr ⟨_, h1⟩⟩))
        · rename_i hc; obtain ⟨vs, h1, _⟩ := cell_at s hi hc; exact .inr (.inr (.inl ⟨rfl, .inr ⟨_, h1⟩⟩))
        · cases e
  | str =>
    rw [em] at e
    cases u with
    | d x =>
      cases x <;> simp only [tyU, Option.some.injEq, reduceCtorEq] at e
      cases r with
      | d r => cases r; exact rfl
    | tup us => simp [tyU] at e
    | ref i =>
      simp only [tyU] at e
      split at e <;> cases e
  | tuple => exact absurd em hm
  | non => cases m <;> simp [mtTy] at em
  | bool => cases m <;> simp [mtTy] at em
  | int => cases m <;> simp [mtTy] at em
theorem to_mt {l : Bool} {m : MT} (hm : mtTy m ≠ .tuple) : ∀ σ H Q, RE ca C (.mt l m eo as) σ H Q → tBM K (tyS (mtTy m)) (rMt ca l m) (RE ca C eo) (RA ca C as) σ H Q := by
  rintro σ H Q ⟨φ, G, O, ρ, T, t, h⟩
  rw [den] at h
  refine ⟨φ, G, O, ρ, T, t, Pc.imp h.bind ?_⟩
  rintro v H1 ⟨φ1, G1, T1, u, f1, s1, r1, h1⟩
  by_cases hk : tyU O T1 u = some (mtTy m)
  · rw [if_pos hk] at h1
    refine ⟨tyU_is s1 r1 hm hk, φ1, G1, O, ρ, T1, ⟨s1, f1.lo t.l, t.n⟩, Pc.imp h1.bind ?_⟩
    rintro vs H2 ⟨φ2, G2, T2, us, f2, s2, r2, h2⟩
    exact ⟨φ2, G2, O, T2, u, us, s2, f2.u r1, r2, h2⟩
  · rw [if_neg hk] at h1; exact h1.elim
theorem to_mt0 {l : Bool} {m : MT} (hm : mtTy m ≠ .tuple) : ∀ σ H Q, RE ca C (.mt l m eo .nil) σ H Q → tBM0 K (tyS (mtTy m)) (rMt ca l m) (RE ca C eo) σ H Q := by
  rintro σ H Q ⟨φ, G, O, ρ, T, t, h⟩
  rw [den] at h
  refine ⟨φ, G, O, ρ, T, t, Pc.imp h.bind ?_⟩
  rintro v H1 ⟨φ1, G1, T1, u, f1, s1, r1, h1⟩
  by_cases hk : tyU O T1 u = some (mtTy m)
  · rw [if_pos hk] at h1
    simp only [denA, R.bind_ok] at h1
    exact ⟨tyU_is s1 r1 hm hk, φ1, G1, O, T1, u, [], s1, r1, .nil, h1⟩
  · rw [if_neg hk] at h1; exact h1.elim
theorem to_bi {l : Bool} {b : BI} : ∀ σ H Q, RE ca C (.bi l b as) σ H Q → tCB (rBi ca l b) (RA ca C as) σ H Q := to_opA fun _ _ _ => by rw [den]
theorem to_isi {l : Bool} {b : BI} {t : Ty} (ht : isiB b = some t) : ∀ σ H Q, RE ca C (.bi l b (.cons ea .nil)) σ H Q → tCB (rIsU ca t) (tCons (RE ca C ea) (tCons (tC (.ty (tyS t))) tNil)) σ H Q := by
  rintro σ H Q ⟨φ, G, O, ρ, T, tt, h⟩
  rw [den] at h
  simp only [denA, R.bind_bind, R.bind_ok] at h
  refine ⟨φ, G, O, ρ, T, tt, Pc.imp h.bind ?_⟩
  rintro v H1 ⟨φ1, G1, T1, u, f1, s1, r1, h1⟩
  rw [isiB_eq ht] at h1
  exact ⟨v, φ1, G1, O, T1, u, rfl, s1, r1, h1⟩
end
end Y

set_option Elab.async false
set_option linter.all false
set_option maxRecDepth 100000
set_option maxHeartbeats 1000000
namespace Y
open PySem PySem.Spec PyProof.Rows L2
/-- what is known of the place where a part stands: slots' names N, the scope, which slots may be read here, which may be written; n: calls yet to be had -/
structure Cg (X : Cx) (N : List Str) (sc : Scope) (vm tm : List Bool) (n : Nat) : Prop where
  hN : X.N = N
  hsc : X.env.scope = sc
  nd : N.Nodup
  calm : X.calm = true
  room : Room n X.A
  never : ∀ e s, ¬ X.xe e s
  vis : ∀ (i : Nat) (x : Str), vm[i]? = some true → N[i]? = some x → Vis sc x ∧ (x == ("__debug__" : Str)) = false ∧ (x == ("__classdict__" : Str)) = false
  tgt : ∀ (i : Nat) (x : Str), tm[i]? = some true → N[i]? = some x → Loc sc x ∧ (X.fn x = true ∨ sc.names.lookup x = some .local)
theorem Cg.hu {X : Cx} {N : List Str} {sc : Scope} {vm tm : List Bool} {n : Nat} (g : Cg X N sc vm tm n) : X.A.units + 65 < cLine := by have := g.room.un; omega
def visB (sc : Scope) (x : Str) : Bool := (match sc.names.lookup x with | some .local => true | some .cell => true | some .free => true | _ => false) && !(x == ("__debug__" : Str)) && !(x == ("__classdict__" : Str))
def visAll (N : List Str) (sc : Scope) (vm : List Bool) : Bool := (N.zip vm).all fun p => !p.2 || visB sc p.1
def locB (sc : Scope) (x : Str) : Bool := match sc.names.lookup x with | some .local => true | some .cell => true | _ => false
def tgtAll (N : List Str) (sc : Scope) (tm : List Bool) : Bool := (N.zip tm).all fun p => !p.2 || locB sc p.1
theorem visB_ok {sc : Scope} {x : Str} (h : visB sc x = true) : Vis sc x ∧ (x == ("__debug__" : Str)) = false ∧ (x == ("__classdict__" : Str)) = false := by
  unfold visB at h
  simp only [Bool.and_eq_true, Bool.not_eq_true'] at h
  refine ⟨?_, h.1.2, h.2⟩
  have h1 := h.1.1
  split at h1
  · exact .inl (by assumption)
  · exact .inr (.inl (by assumption))
  · exact .inr (.inr (by assumption))
  · cases h1
theorem locB_ok {sc : Scope} {x : Str} (h : locB sc x = true) : Loc sc x := by
  unfold locB at h
  split at h
  · exact .inl (by assumption)
  · exact .inr (by assumption)
  · cases h
theorem all_zip {α β : Type} {p : α × β → Bool} {xs : List α} {ys : List β} (h : (xs.zip ys).all p = true) {i : Nat} {x : α} {y : β} (hx : xs[i]? = some x) (hy : ys[i]? = some y) : p (x, y) = true := by
  rw [List.all_eq_true] at h
  refine h _ (List.mem_of_getElem? (i := i) ?_)
  rw [List.getElem?_zip_eq_some]
  exact ⟨hx, hy⟩
theorem visAll_ok {N : List Str} {sc : Scope} {vm : List Bool} (h : visAll N sc vm = true) (i : Nat) (x : Str) (h1 : vm[i]? = some true) (h2 : N[i]? = some x) : Vis sc x ∧ (x == ("__debug__" : Str)) = false ∧ (x == ("__classdict__" : Str)) = false :=
  visB_ok (by simpa using all_zip h h2 h1)
/-- a def's own place -/
theorem Cg.ofDef {P : Program} {w : World} {K : PySem.W.Frag} {mg : Str → Option Value} {base : Heap} {N : List Str} {qual : Str} {sc : Scope} {f : Addr} {cdv : Value} {A : Around} {outer : List Env} {s : Shared} {H : Hp} {E : XK} {n : Nat} {vm : List Bool}
    (hn : decide N.Nodup = true) (hv : visAll N sc vm = true) (ht : tgtAll N sc vm = true) (hr : Room n (A.deeper (envOfC qual sc s.heap.objs.size f cdv))) : Cg (cxOf CX0 P w K mg base N qual sc f cdv A outer s H E).nox N sc vm vm n where
  hN := rfl
  hsc := rfl
  nd := of_decide_eq_true hn
  calm := rfl
  room := hr
  never := fun _ _ h => h
  vis := visAll_ok hv
  tgt := fun i x h1 h2 => ⟨locB_ok (by simpa using all_zip ht h2 h1), .inl rfl⟩
def tgtBlk (N : List Str) (scope sc : Scope) (tm : List Bool) : Bool := (N.zip tm).all fun p => !p.2 || (locB sc p.1 && (scope.names.lookup p.1 == some .cell || sc.names.lookup p.1 == some .local))
theorem Cg.blk {X : Cx} {N : List Str} {sc : Scope} {vm tm vm' tm' : List Bool} {n : Nat} (g : Cg X N sc vm tm n) {scope : Scope} (sc' : Scope) (hs : relS scope sc = sc') (hv : visAll N sc' vm' = true) (ht : tgtBlk N scope sc' tm' = true)
    (s : Shared) (H : Hp) (C : Addr) (cl : List (Str × Addr)) (fp : List Addr) : Cg (X.blk s H scope (compEnvC scope cl C X.env) fp) N sc' vm' tm' n where
  hN := g.hN
  hsc := by
    rw [← hs, ← g.hsc]
    rfl
  nd := g.nd
  calm := g.calm
  room := g.room
  never := fun _ _ h => h
  vis := visAll_ok hv
  tgt := fun i x h1 h2 => by
    have h := all_zip ht h2 h1
    simp only [Bool.not_true, Bool.false_or, Bool.and_eq_true, Bool.or_eq_true, beq_iff_eq] at h
    refine ⟨locB_ok h.1, ?_⟩
    rcases h.2 with h | h
    · left
      show (scope.names.lookup x == some .cell) = true
      rw [h] <;> rfl
    · exact .inr h
theorem bt_len : bootBuiltins "len" = some (.builtin "len") := by decide +kernel
theorem bt_list : bootBuiltins "list" = some (.type "list") := by decide +kernel
theorem bt_tuple : bootBuiltins "tuple" = some (.type "tuple") := by decide +kernel
theorem bt_sum : bootBuiltins "sum" = some (.builtin "sum") := by decide +kernel
theorem bt_all : bootBuiltins "all" = some (.builtin "all") := by decide +kernel
theorem bt_any : bootBuiltins "any" = some (.builtin "any") := by decide +kernel
theorem bt_int : bootBuiltins "int" = some (.type "int") := by decide +kernel
theorem bt_str : bootBuiltins "str" = some (.type "str") := by decide +kernel
theorem bt_abs : bootBuiltins "abs" = some (.builtin "abs") := by decide +kernel
theorem bt_max : bootBuiltins "max" = some (.builtin "max") := by decide +kernel
theorem bt_min : bootBuiltins "min" = some (.builtin "min") := by decide +kernel
theorem bt_isinstance : bootBuiltins "isinstance" = some (.builtin "isinstance") := by decide +kernel
theorem bt_bool : bootBuiltins "bool" = some (.type "bool") := by decide +kernel
theorem bt_dict : bootBuiltins "dict" = some (.type "dict") := by decide +kernel
section
variable {ca : Nat → Addr} {O T : Cs} {X : Cx} {C : Cn} {pos p apos cpos tpos pos' p2 : Pos} {a b c e tg o i iter elt st : Expr} {ea eb ec eo : CE} {as : CA} {es rest : List Expr} {N : List Str} {sc sc' : Scope} {vm tm vm' tm' : List Bool} {n j np : Nat} {x m f : Str}
theorem y_v (g : Cg X N sc vm tm n) (i : Nat) (hN : N[i]? = some x := by rfl) (hv : vm[i]? = some true := by rfl) : PE X (.Name x pos) (RE ca C (.v i)) :=
  have h := g.vis i x hv hN
  pe_v (g.hN ▸ hN) (g.hsc ▸ h.1) h.2.1 h.2.2
theorem y_int {k : Int} {jj : Nat} : PE X (.Constant (.int k) jj pos) (RE ca C (.c (.int k))) := pe_c (fun _ => .int k) pe_int
theorem y_bl {k : Bool} {jj : Nat} : PE X (.Constant (.bool k) jj pos) (RE ca C (.c (.bool k))) := pe_c (fun _ => .bl k) pe_bl
theorem y_str {k : Str} {jj : Nat} : PE X (.Constant (.str k) jj pos) (RE ca C (.c (.str k))) := pe_c (fun _ => .str k) pe_str
theorem y_non {jj : Nat} : PE X (.Constant .none jj pos) (RE ca C (.c .none)) := pe_c (fun _ => .non) pe_non
theorem gl_of (g : Cg X N sc vm tm n) (h : sc.names.lookup x = some .globalImplicit) : Gl X x := by
  show X.env.scope.names.lookup x = _
  rw [g.hsc]
  exact h
/-- a constant of the module -/
theorem y_g (g : Cg X N sc vm tm n) {k : Nat} {d : Y.D} (hm : ∃ u v, X.mg x = some u ∧ RelV v u ∧ ∀ G, Rp G v d) (hk : C.glob k = some d) (hg : sc.names.lookup x = some .globalImplicit := by rfl) (hd : (x == ("__debug__" : Str)) = false := by decide) : PE X (.Name x pos) (RE ca C (.g k)) := by
  obtain ⟨u, v, h1, h2, h3⟩ := hm
  refine (pe_glob (gl_of g hg) h1 h2 hd).imp fun σ H Q => ?_
  rintro ⟨φ, G, O, ρ, T, t, h⟩
  rw [den, hk] at h
  exact Pc.now h t.s (.d (h3 G))
theorem un_neg' : UnR X (unaryOp .USub) (rOp1 ca fun O x T => match x with
    | .d (.int i) => .ok (.d (.int (-i))) T
    | _ => .fail) := by
  rintro pins s σ H x v Q I rx ⟨φ, G, O, T, u, sd, r, h⟩
  have k : ∀ i, u = .d (.int i) → wpAny (model X.prog X.w) X.A (unaryOp .USub v) (EP X pins σ Q) X.xe s := fun i e => by
    subst e
    have := rp_int r; subst this
    exact un_neg pins s σ H _ v Q I rx ⟨_, rfl, Pc.now h sd (.d (.int _))⟩
  cases u with
  | d x => cases x <;> first | exact k _ rfl | exact h.elim
  | ref _ => exact h.elim
  | tup _ => exact h.elim
theorem y_neg (ha : PE X a (RE ca C ea)) : PE X (.UnaryOp .USub a pos) (RE ca C (.neg ea)) := (pe_un un_neg' ha).imp (to_op1 fun _ _ _ => by rw [den] <;> rfl)
theorem y_bin {l : Bool} {o : Op} (ha : PE X a (RE ca C ea)) (hb : PE X b (RE ca C eb)) : PE X (.BinOp a (opS o) b pos) (RE ca C (.bin l o ea eb)) := pe_bin (op_bin o l) ha hb
theorem y_cm (g : Cg X N sc vm tm n) {o : COp} (ha : PE X a (RE ca C ea)) (hb : PE X b (RE ca C eb)) (hm : behindInMarks (copS o) b = false := by rfl) : PE X (.Compare a [copS o] [b] pos) (RE ca C (.cmp o ea eb)) := pe_cm (op_cmp o g.hu) ha hb hm
theorem y_ch (g : Cg X N sc vm tm n) {o o' : COp} (ha : PE X a (RE ca C ea)) (hb : PE X b (RE ca C eb)) (he : PE X e (RE ca C ec)) (hm : lastMarks [copS o, copS o'] [b, e] = false := by rfl) :
    PE X (.Compare a [copS o, copS o'] [b, e] pos) (RE ca C (.chain o o' ea eb ec)) := pe_ch (op_cmp o g.hu) (op_cmp o' g.hu) ha hb he hm
theorem y_and (ha : PE X a (RE ca C ea)) (hb : PE X (.BoolOp .And (b :: rest) pos) (RE ca C eb)) : PE X (.BoolOp .And (a :: b :: rest) pos) (RE ca C (.and ea eb)) := (pe_and ha hb).imp to_and
theorem y_or (ha : PE X a (RE ca C ea)) (hb : PE X (.BoolOp .Or (b :: rest) pos) (RE ca C eb)) : PE X (.BoolOp .Or (a :: b :: rest) pos) (RE ca C (.or ea eb)) := (pe_or ha hb).imp to_or
theorem y_one {op : BoolOp} (ha : PE X a (RE ca C ea)) : PE X (.BoolOp op [a] pos) (RE ca C ea) := pe_one ha
theorem y_not (ha : PE X a (RE ca C ea)) : PE X (.UnaryOp .Not a pos) (RE ca C (.not ea)) := (pe_not ha).imp to_not
theorem y_if (hc : PT X c (RT ca C ec)) (ha : PE X a (RE ca C ea)) (hb : PE X b (RE ca C eb)) : PE X (.IfExp c a b pos) (RE ca C (.ite ec ea eb)) := (pe_ifExp hc ha hb).imp to_ite
theorem t_cm (g : Cg X N sc vm tm n) {o : COp} (ha : PE X a (RE ca C ea)) (hb : PE X b (RE ca C eb)) (hm : behindInMarks (copS o) b = false := by rfl) : PT X (.Compare a [copS o] [b] pos) (RT ca C (.cmp o ea eb)) := pt_cm (op_cmp o g.hu) ha hb hm
theorem t_ch (g : Cg X N sc vm tm n) {o o' : COp} (ha : PE X a (RE ca C ea)) (hb : PE X b (RE ca C eb)) (he : PE X e (RE ca C ec)) (hm : lastMarks [copS o, copS o'] [b, e] = false := by rfl) :
    PT X (.Compare a [copS o, copS o'] [b, e] pos) (RT ca C (.chain o o' ea eb ec)) := pt_ch (op_cmp o g.hu) (op_cmp o' g.hu) ha hb he hm
theorem t_e (h : PE X e (RE ca C ea)) (he : ∀ whole, isTrue e X.env whole = (do let v ← whole; standAt e.pos; holding [v] (truthy v)) := by intro _; rfl) : PT X e (RT ca C ea) := pt_e h he
theorem w_and (ha : PT X a (RT ca C ea)) (hb : PW X (.BoolOp .And (b :: rest) pos) (RT ca C eb)) : PW X (.BoolOp .And (a :: b :: rest) pos) (RT ca C (.and ea eb)) := (pw_and ha hb).imp to_andT
theorem w_or (ha : PT X a (RT ca C ea)) (hb : PW X (.BoolOp .Or (b :: rest) pos) (RT ca C eb)) : PW X (.BoolOp .Or (a :: b :: rest) pos) (RT ca C (.or ea eb)) := (pw_or ha hb).imp to_orT
theorem w_and1 (ha : PT X a (RT ca C ea)) : PW X (.BoolOp .And [a] pos) (RT ca C ea) := pw_and1 ha
theorem w_or1 (ha : PT X a (RT ca C ea)) : PW X (.BoolOp .Or [a] pos) (RT ca C ea) := pw_or1 ha
theorem t_w (h : PW X e (RT ca C ea)) : PT X e (RT ca C ea) := h.pt
theorem t_not (ha : PT X a (RT ca C ea)) : PT X (.UnaryOp .Not a pos) (RT ca C (.not ea)) := (pt_not ha).imp to_notT
theorem a_nil : PA X [] (RA ca C .nil) := pa_nil'
theorem a_cons (ha : PE X a (RE ca C ea)) (hr : PA X es (RA ca C as)) (hs : starEach (a :: es) X.env = (false, eval a X.env) :: starEach es X.env := by rfl) : PA X (a :: es) (RA ca C (.cons ea as)) := pa_cons' ha hr hs
theorem y_tup {k : Nat} (h : PA X es (RA ca C as)) : PE X (.Tuple es k pos) (RE ca C (.tup as)) := pe_tu h
theorem y_lst {l : Bool} (h : PA X es (RA ca C as)) : PE X (.List es pos) (RE ca C (.lst l as)) := pe_li h
theorem y_ix (g : Cg X N sc vm tm n) (ha : PE X a (RE ca C ea)) (hb : PE X b (RE ca C eb)) (hs : PlainIx b := by exact fun _ _ => rfl) : PE X (.Subscript a b pos) (RE ca C (.ix ea eb)) := pe_sub (ix := eb) (ix_any g.hu) ha hb hs
theorem y_slc {l : Bool} {lo hi : Option Expr} (ha : PE X a (RE ca C ea)) (hl : PO X lo (RP ca C eb)) (hh : PO X hi (RP ca C ec)) : PE X (.Subscript a (.Slice lo hi none p2) pos) (RE ca C (.slc l ea eb ec)) := (pe_slice (sl_any l) ha hl hh).imp to_slc
theorem o_sk : PO X none (RP ca C .skip) := po_sk
theorem o_e (h : PE X e (RE ca C ec)) (hs : isSkip ec = false := by rfl) : PO X (some e) (RP ca C ec) := po_e h hs
theorem y_frz (h : PE X e (RE ca C ea)) : PE X e (RE ca C (.frz ea)) := h.imp to_frz
theorem y_dict0 : PE X (.Dict [] [] pos) (RE ca C .dict0) := pe_di
/-- a def that may be called by the name x -/
structure CalY (P : Program) (w : World) (K : PySem.W.Frag) (mg : Str → Option Value) (base : Heap) (ca : Nat → Addr) (call : Cs → Nat → List U → Cs → R U) (n j np : Nat) (x : Str) (ds : List Y.D) : Prop where
  ex : ∃ (f : Addr) (fd : FuncData) (ps : List Str) (dvs : List V) (dus : List Value), FnOk P w K mg base CX0 n f fd ps (spR ca call j np) ∧ mg x = some (.ref f) ∧ PySem.W.keepIn K (.ref f) = true ∧ Binds K fd ps dus ∧ Vals dvs dus ∧ ∀ G, Rps G dvs ds
  len : ∀ O us T, us.length ≠ np → call O j us T = .fail
theorem y_call (g : Cg X N sc vm tm n) {l : Bool} {ds : List Y.D} (F : CalY X.prog X.w X.K X.mg X.base ca C.call n j np x ds) (ha : PA X (e :: es) (RA ca C as)) (hg : sc.names.lookup x = some .globalImplicit := by rfl) (hdb : (x == ("__debug__" : Str)) = false := by decide)
    (he : starEach (e :: es) X.env = (false, eval e X.env) :: starEach es X.env := by rfl) (hpl : (backTo pos (starEach es X.env)).any (·.1) = false := by rfl) : PE X (.Call (.Name x p) (e :: es) [] pos) (RE ca C (.call l j as ds)) := by
  obtain ⟨f, fd, ps, dvs, dus, h1, h2, h3, h4, h5, h6⟩ := F.ex
  exact (pe_call h1 g.room (gl_of g hg) h2 h3 h4 h5 (E := E0) pass0 ha hdb he hpl).imp (to_call h6 F.len)
theorem y_call0 (g : Cg X N sc vm tm n) {l : Bool} {ds : List Y.D} (F : CalY X.prog X.w X.K X.mg X.base ca C.call n j np x ds) (hg : sc.names.lookup x = some .globalImplicit := by rfl) (hdb : (x == ("__debug__" : Str)) = false := by decide) :
    PE X (.Call (.Name x p) [] [] pos) (RE ca C (.call l j .nil ds)) := by
  obtain ⟨f, fd, ps, dvs, dus, h1, h2, h3, h4, h5, h6⟩ := F.ex
  refine (pe_call0 h1 g.room (gl_of g hg) h2 h3 h4 h5 (E := E0) pass0 hdb).imp fun σ H Q h => ?_
  have := to_call h6 F.len σ H Q h (E := E0)
  obtain ⟨φ, G, O, ρ, T, t, q⟩ := this
  exact Pc.now q t.s .nil
/-- a method -/
structure MetY (P : Program) (w : World) (K : PySem.W.Frag) (mg : Str → Option Value) (base : Heap) (ca : Nat → Addr) (call : Cs → Nat → List U → Cs → R U) (n c j np : Nat) (m : Str) : Prop where
  ex : ∃ (f : Addr) (fd : FuncData) (ps : List Str), Cls K (ca c) ∧ Meth K (ca c) m f ∧ FnOk P w K mg base CX0 n f fd ps (spR ca call j np) ∧ Binds K fd ps []
  len : ∀ O us T, us.length ≠ np → call O j us T = .fail
theorem y_mc {pl : Sem Bool} (g : Cg X N sc vm tm n) {c : Nat} (F : MetY X.prog X.w X.K X.mg X.base ca C.call n c j np m) (ho : PE X o (RE ca C eo)) (ha : PA X (e :: es) (RA ca C as))
    (hst : starEach (e :: es) X.env = (false, eval e X.env) :: starEach es X.env := by rfl) (hpl : (backTo pos (starEach es X.env)).any (·.1) = false := by rfl)
    (ht : eval (.Call (.Attribute o m apos) (e :: es) [] pos) X.env = (do
      let ov ← eval o X.env
      standAt apos.atName
      let (f, first) ← holding [ov] (getMethod ov m pl)
      callWith pos f first (backTo pos (starEach (e :: es) X.env)) (backToKw pos (keywordEach [] X.env))) := by rfl) : PE X (.Call (.Attribute o m apos) (e :: es) [] pos) (RE ca C (.mcall c j m eo as)) := by
  obtain ⟨f, fd, ps, h1, h2, h3, h4⟩ := F.ex
  exact (pe_meth (E := E0) ho h1 h2 h3 g.room h4 .nil pass0 ha hst hpl ht).imp (to_mcall F.len)
theorem y_mc0 {pl : Sem Bool} (g : Cg X N sc vm tm n) {c : Nat} (F : MetY X.prog X.w X.K X.mg X.base ca C.call n c j np m) (ho : PE X o (RE ca C eo))
    (ht : eval (.Call (.Attribute o m apos) [] [] pos) X.env = (do
      let ov ← eval o X.env
      standAt apos.atName
      let (f, first) ← holding [ov] (getMethod ov m pl)
      callWith pos f first (backTo pos (starEach [] X.env)) (backToKw pos (keywordEach [] X.env))) := by rfl) : PE X (.Call (.Attribute o m apos) [] [] pos) (RE ca C (.mcall c j m eo .nil)) := by
  obtain ⟨f, fd, ps, h1, h2, h3, h4⟩ := F.ex
  refine (pe_meth0 (E := E0) ho h1 h2 h3 g.room h4 .nil pass0 ht).imp fun σ H Q h => ?_
  have := to_mcall (E := E0) F.len σ H Q h
  obtain ⟨φ, G, O, ρ, T, t, q⟩ := this
  refine ⟨φ, G, O, ρ, T, t, Pc.imp q ?_⟩
  rintro v H1 ⟨a, dx, fs, e1, e2, e3, φ1, G1, O1, ρ1, T1, t1, q1⟩
  exact ⟨a, dx, fs, e1, e2, e3, Pc.now q1 t1.s .nil⟩
/-- a class made by its name -/
structure MakY (P : Program) (w : World) (K : PySem.W.Frag) (mg : Str → Option Value) (base : Heap) (ca : Nat → Addr) (make : Cs → Nat → List U → Cs → R U) (n c j np : Nat) (x : Str) : Prop where
  ex : ∃ (k : Nat) (f : Addr) (fd : FuncData) (ps : List Str), n = k + 1 ∧ Mk K (ca c) f ∧ FnOk P w K mg base CX0 k f fd ps (spR ca make j np) ∧ mg x = some (.ref (ca c)) ∧ Binds K fd ps []
  len : ∀ O us T, us.length ≠ np → make O j us T = .fail
theorem y_mk (g : Cg X N sc vm tm n) {c : Nat} (F : MakY X.prog X.w X.K X.mg X.base ca C.make n c j np x) (ha : PA X (e :: es) (RA ca C as)) (hg : sc.names.lookup x = some .globalImplicit := by rfl) (hdb : (x == ("__debug__" : Str)) = false := by decide)
    (he : starEach (e :: es) X.env = (false, eval e X.env) :: starEach es X.env := by rfl) (hpl : (backTo pos (starEach es X.env)).any (·.1) = false := by rfl) : PE X (.Call (.Name x p) (e :: es) [] pos) (RE ca C (.mk c j as)) := by
  obtain ⟨k, f, fd, ps, rfl, h1, h2, h3, h4⟩ := F.ex
  exact (pe_make (E := E0) h1 h2 g.room (gl_of g hg) h3 h4 .nil pass0 ha hdb he hpl).imp (to_mk F.len)
theorem y_mk0 (g : Cg X N sc vm tm n) {c : Nat} (F : MakY X.prog X.w X.K X.mg X.base ca C.make n c j np x) (hg : sc.names.lookup x = some .globalImplicit := by rfl) (hdb : (x == ("__debug__" : Str)) = false := by decide) :
    PE X (.Call (.Name x p) [] [] pos) (RE ca C (.mk c j .nil)) := by
  obtain ⟨k, f, fd, ps, rfl, h1, h2, h3, h4⟩ := F.ex
  refine (pe_make0 (E := E0) h1 h2 g.room (gl_of g hg) h3 h4 .nil pass0 hdb).imp fun σ H Q h => ?_
  obtain ⟨φ, G, O, ρ, T, t, q⟩ := to_mk (E := E0) F.len σ H Q h
  exact Pc.now q t.s .nil
theorem y_fld {c : Nat} (F : Cls X.K (ca c) ∧ NoAttr X.K (ca c) f) (ho : PE X o (RE ca C eo)) (hb : attributeBase o f X.env (eval o X.env) = eval o X.env := by rfl) : PE X (.Attribute o f pos) (RE ca C (.fld c eo f)) :=
  (pe_fld ho hb).imp (to_fld F.1 F.2)
theorem y_cb (g : Cg X N sc vm tm n) {l : Bool} {bi : BI} {id : String} (hc : CallR X (.builtin id) (rBi ca l bi)) (hm : X.mg x = none) (hv : bootBuiltins x = some (.builtin id)) (ha : PA X (e :: es) (RA ca C as)) (hg : sc.names.lookup x = some .globalImplicit := by rfl) (hn : x ≠ "__name__" := by decide) (hdb : (x == ("__debug__" : Str)) = false := by decide)
    (he : starEach (e :: es) X.env = (false, eval e X.env) :: starEach es X.env := by rfl) (hpl : (backTo pos (starEach es X.env)).any (·.1) = false := by rfl) : PE X (.Call (.Name x p) (e :: es) [] pos) (RE ca C (.bi l bi as)) :=
  (pe_callB hc (gl_of g hg) hm hv ha hn hdb he hpl).imp to_bi
theorem y_cty (g : Cg X N sc vm tm n) {l : Bool} {bi : BI} {Tn : String} (hc : CallR X (.type Tn) (rBi ca l bi)) (hm : X.mg x = none) (hv : bootBuiltins x = some (.type Tn)) (ha : PA X (e :: es) (RA ca C as)) (hg : sc.names.lookup x = some .globalImplicit := by rfl) (hn : x ≠ "__name__" := by decide) (hdb : (x == ("__debug__" : Str)) = false := by decide)
    (he : starEach (e :: es) X.env = (false, eval e X.env) :: starEach es X.env := by rfl) (hpl : (backTo pos (starEach es X.env)).any (·.1) = false := by rfl) : PE X (.Call (.Name x p) (e :: es) [] pos) (RE ca C (.bi l bi as)) :=
  (pe_callTy hc (gl_of g hg) hm hv ha hn hdb he hpl).imp to_bi
theorem f_len (g : Cg X N sc vm tm n) {l : Bool} (hm : X.mg "len" = none) (ha : PA X (e :: es) (RA ca C as)) (hg : sc.names.lookup ("len" : Str) = some .globalImplicit := by rfl)
    (he : starEach (e :: es) X.env = (false, eval e X.env) :: starEach es X.env := by rfl) (hpl : (backTo pos (starEach es X.env)).any (·.1) = false := by rfl) : PE X (.Call (.Name "len" p) (e :: es) [] pos) (RE ca C (.bi l .len as)) :=
  y_cb g (cr_len) hm bt_len ha hg (by decide) (by decide) he hpl
theorem f_list (g : Cg X N sc vm tm n) {l : Bool} (hm : X.mg "list" = none) (ha : PA X (e :: es) (RA ca C as)) (hg : sc.names.lookup ("list" : Str) = some .globalImplicit := by rfl)
    (he : starEach (e :: es) X.env = (false, eval e X.env) :: starEach es X.env := by rfl) (hpl : (backTo pos (starEach es X.env)).any (·.1) = false := by rfl) : PE X (.Call (.Name "list" p) (e :: es) [] pos) (RE ca C (.bi l .list as)) :=
  y_cty g (cr_list) hm bt_list ha hg (by decide) (by decide) he hpl
theorem f_tuple (g : Cg X N sc vm tm n) {l : Bool} (hm : X.mg "tuple" = none) (ha : PA X (e :: es) (RA ca C as)) (hg : sc.names.lookup ("tuple" : Str) = some .globalImplicit := by rfl)
    (he : starEach (e :: es) X.env = (false, eval e X.env) :: starEach es X.env := by rfl) (hpl : (backTo pos (starEach es X.env)).any (·.1) = false := by rfl) : PE X (.Call (.Name "tuple" p) (e :: es) [] pos) (RE ca C (.bi l .tuple as)) :=
  y_cty g (cr_tuple) hm bt_tuple ha hg (by decide) (by decide) he hpl
theorem f_sum (g : Cg X N sc vm tm n) {l : Bool} (hm : X.mg "sum" = none) (ha : PA X (e :: es) (RA ca C as)) (hg : sc.names.lookup ("sum" : Str) = some .globalImplicit := by rfl)
    (he : starEach (e :: es) X.env = (false, eval e X.env) :: starEach es X.env := by rfl) (hpl : (backTo pos (starEach es X.env)).any (·.1) = false := by rfl) : PE X (.Call (.Name "sum" p) (e :: es) [] pos) (RE ca C (.bi l .sum as)) :=
  y_cb g (cr_sum' g.calm) hm bt_sum ha hg (by decide) (by decide) he hpl
theorem f_all (g : Cg X N sc vm tm n) {l : Bool} (hm : X.mg "all" = none) (ha : PA X (e :: es) (RA ca C as)) (hg : sc.names.lookup ("all" : Str) = some .globalImplicit := by rfl)
    (he : starEach (e :: es) X.env = (false, eval e X.env) :: starEach es X.env := by rfl) (hpl : (backTo pos (starEach es X.env)).any (·.1) = false := by rfl) : PE X (.Call (.Name "all" p) (e :: es) [] pos) (RE ca C (.bi l .all as)) :=
  y_cb g (cr_all' g.calm) hm bt_all ha hg (by decide) (by decide) he hpl
theorem f_any (g : Cg X N sc vm tm n) {l : Bool} (hm : X.mg "any" = none) (ha : PA X (e :: es) (RA ca C as)) (hg : sc.names.lookup ("any" : Str) = some .globalImplicit := by rfl)
    (he : starEach (e :: es) X.env = (false, eval e X.env) :: starEach es X.env := by rfl) (hpl : (backTo pos (starEach es X.env)).any (·.1) = false := by rfl) : PE X (.Call (.Name "any" p) (e :: es) [] pos) (RE ca C (.bi l .any as)) :=
  y_cb g (cr_any' g.calm) hm bt_any ha hg (by decide) (by decide) he hpl
theorem f_int (g : Cg X N sc vm tm n) {l : Bool} (hm : X.mg "int" = none) (ha : PA X (e :: es) (RA ca C as)) (hg : sc.names.lookup ("int" : Str) = some .globalImplicit := by rfl)
    (he : starEach (e :: es) X.env = (false, eval e X.env) :: starEach es X.env := by rfl) (hpl : (backTo pos (starEach es X.env)).any (·.1) = false := by rfl) : PE X (.Call (.Name "int" p) (e :: es) [] pos) (RE ca C (.bi l .int as)) :=
  y_cty g (cr_int) hm bt_int ha hg (by decide) (by decide) he hpl
theorem f_str (g : Cg X N sc vm tm n) {l : Bool} (hm : X.mg "str" = none) (ha : PA X (e :: es) (RA ca C as)) (hg : sc.names.lookup ("str" : Str) = some .globalImplicit := by rfl)
    (he : starEach (e :: es) X.env = (false, eval e X.env) :: starEach es X.env := by rfl) (hpl : (backTo pos (starEach es X.env)).any (·.1) = false := by rfl) : PE X (.Call (.Name "str" p) (e :: es) [] pos) (RE ca C (.bi l .str as)) :=
  y_cty g (cr_str) hm bt_str ha hg (by decide) (by decide) he hpl
theorem f_abs (g : Cg X N sc vm tm n) {l : Bool} (hm : X.mg "abs" = none) (ha : PA X (e :: es) (RA ca C as)) (hg : sc.names.lookup ("abs" : Str) = some .globalImplicit := by rfl)
    (he : starEach (e :: es) X.env = (false, eval e X.env) :: starEach es X.env := by rfl) (hpl : (backTo pos (starEach es X.env)).any (·.1) = false := by rfl) : PE X (.Call (.Name "abs" p) (e :: es) [] pos) (RE ca C (.bi l .abs as)) :=
  y_cb g (cr_abs) hm bt_abs ha hg (by decide) (by decide) he hpl
theorem f_max2 (g : Cg X N sc vm tm n) {l : Bool} (hm : X.mg "max" = none) (ha : PA X (e :: es) (RA ca C as)) (hg : sc.names.lookup ("max" : Str) = some .globalImplicit := by rfl)
    (he : starEach (e :: es) X.env = (false, eval e X.env) :: starEach es X.env := by rfl) (hpl : (backTo pos (starEach es X.env)).any (·.1) = false := by rfl) : PE X (.Call (.Name "max" p) (e :: es) [] pos) (RE ca C (.bi l .max2 as)) :=
  y_cb g (cr_max2 g.calm) hm bt_max ha hg (by decide) (by decide) he hpl
theorem f_min2 (g : Cg X N sc vm tm n) {l : Bool} (hm : X.mg "min" = none) (ha : PA X (e :: es) (RA ca C as)) (hg : sc.names.lookup ("min" : Str) = some .globalImplicit := by rfl)
    (he : starEach (e :: es) X.env = (false, eval e X.env) :: starEach es X.env := by rfl) (hpl : (backTo pos (starEach es X.env)).any (·.1) = false := by rfl) : PE X (.Call (.Name "min" p) (e :: es) [] pos) (RE ca C (.bi l .min2 as)) :=
  y_cb g (cr_min2 g.calm) hm bt_min ha hg (by decide) (by decide) he hpl
theorem f_isint (g : Cg X N sc vm tm n) {l : Bool} (hm : X.mg "isinstance" = none) (hm2 : X.mg "int" = none) (ha : PE X e (RE ca C ea)) (hg : sc.names.lookup ("isinstance" : Str) = some .globalImplicit := by rfl) (hg2 : sc.names.lookup ("int" : Str) = some .globalImplicit := by rfl)
    (he : starEach [e, .Name "int" p2] X.env = (false, eval e X.env) :: starEach [.Name "int" p2] X.env := by rfl) : PE X (.Call (.Name "isinstance" p) [e, .Name "int" p2] [] pos) (RE ca C (.bi l .isint (.cons ea .nil))) :=
  (pe_callB (cr_isi (ca := ca) (t := .int) (by decide)) (gl_of g hg) hm bt_isinstance (pa_cons ha (pa_cons (pe_bltn (gl_of g hg2) hm2 bt_int (v := .ty (tyS .int)) rfl (by decide) (by decide)) pa_nil rfl) he) (by decide) (by decide) he rfl).imp (to_isi rfl)
theorem f_isbool (g : Cg X N sc vm tm n) {l : Bool} (hm : X.mg "isinstance" = none) (hm2 : X.mg "bool" = none) (ha : PE X e (RE ca C ea)) (hg : sc.names.lookup ("isinstance" : Str) = some .globalImplicit := by rfl) (hg2 : sc.names.lookup ("bool" : Str) = some .globalImplicit := by rfl)
    (he : starEach [e, .Name "bool" p2] X.env = (false, eval e X.env) :: starEach [.Name "bool" p2] X.env := by rfl) : PE X (.Call (.Name "isinstance" p) [e, .Name "bool" p2] [] pos) (RE ca C (.bi l .isbool (.cons ea .nil))) :=
  (pe_callB (cr_isi (ca := ca) (t := .bool) (by decide)) (gl_of g hg) hm bt_isinstance (pa_cons ha (pa_cons (pe_bltn (gl_of g hg2) hm2 bt_bool (v := .ty (tyS .bool)) rfl (by decide) (by decide)) pa_nil rfl) he) (by decide) (by decide) he rfl).imp (to_isi rfl)
theorem f_isstr (g : Cg X N sc vm tm n) {l : Bool} (hm : X.mg "isinstance" = none) (hm2 : X.mg "str" = none) (ha : PE X e (RE ca C ea)) (hg : sc.names.lookup ("isinstance" : Str) = some .globalImplicit := by rfl) (hg2 : sc.names.lookup ("str" : Str) = some .globalImplicit := by rfl)
    (he : starEach [e, .Name "str" p2] X.env = (false, eval e X.env) :: starEach [.Name "str" p2] X.env := by rfl) : PE X (.Call (.Name "isinstance" p) [e, .Name "str" p2] [] pos) (RE ca C (.bi l .isstr (.cons ea .nil))) :=
  (pe_callB (cr_isi (ca := ca) (t := .str) (by decide)) (gl_of g hg) hm bt_isinstance (pa_cons ha (pa_cons (pe_bltn (gl_of g hg2) hm2 bt_str (v := .ty (tyS .str)) rfl (by decide) (by decide)) pa_nil rfl) he) (by decide) (by decide) he rfl).imp (to_isi rfl)
theorem f_islist (g : Cg X N sc vm tm n) {l : Bool} (hm : X.mg "isinstance" = none) (hm2 : X.mg "list" = none) (ha : PE X e (RE ca C ea)) (hg : sc.names.lookup ("isinstance" : Str) = some .globalImplicit := by rfl) (hg2 : sc.names.lookup ("list" : Str) = some .globalImplicit := by rfl)
    (he : starEach [e, .Name "list" p2] X.env = (false, eval e X.env) :: starEach [.Name "list" p2] X.env := by rfl) : PE X (.Call (.Name "isinstance" p) [e, .Name "list" p2] [] pos) (RE ca C (.bi l .islist (.cons ea .nil))) :=
  (pe_callB (cr_isi (ca := ca) (t := .list) (by decide)) (gl_of g hg) hm bt_isinstance (pa_cons ha (pa_cons (pe_bltn (gl_of g hg2) hm2 bt_list (v := .ty (tyS .list)) rfl (by decide) (by decide)) pa_nil rfl) he) (by decide) (by decide) he rfl).imp (to_isi rfl)
theorem f_istuple (g : Cg X N sc vm tm n) {l : Bool} (hm : X.mg "isinstance" = none) (hm2 : X.mg "tuple" = none) (ha : PE X e (RE ca C ea)) (hg : sc.names.lookup ("isinstance" : Str) = some .globalImplicit := by rfl) (hg2 : sc.names.lookup ("tuple" : Str) = some .globalImplicit := by rfl)
    (he : starEach [e, .Name "tuple" p2] X.env = (false, eval e X.env) :: starEach [.Name "tuple" p2] X.env := by rfl) : PE X (.Call (.Name "isinstance" p) [e, .Name "tuple" p2] [] pos) (RE ca C (.bi l .istuple (.cons ea .nil))) :=
  (pe_callB (cr_isi (ca := ca) (t := .tuple) (by decide)) (gl_of g hg) hm bt_isinstance (pa_cons ha (pa_cons (pe_bltn (gl_of g hg2) hm2 bt_tuple (v := .ty (tyS .tuple)) rfl (by decide) (by decide)) pa_nil rfl) he) (by decide) (by decide) he rfl).imp (to_isi rfl)
theorem f_isdict (g : Cg X N sc vm tm n) {l : Bool} (hm : X.mg "isinstance" = none) (hm2 : X.mg "dict" = none) (ha : PE X e (RE ca C ea)) (hg : sc.names.lookup ("isinstance" : Str) = some .globalImplicit := by rfl) (hg2 : sc.names.lookup ("dict" : Str) = some .globalImplicit := by rfl)
    (he : starEach [e, .Name "dict" p2] X.env = (false, eval e X.env) :: starEach [.Name "dict" p2] X.env := by rfl) : PE X (.Call (.Name "isinstance" p) [e, .Name "dict" p2] [] pos) (RE ca C (.bi l .isdict (.cons ea .nil))) :=
  (pe_callB (cr_isi (ca := ca) (t := .dict) (by decide)) (gl_of g hg) hm bt_isinstance (pa_cons ha (pa_cons (pe_bltn (gl_of g hg2) hm2 bt_dict (v := .ty (tyS .dict)) rfl (by decide) (by decide)) pa_nil rfl) he) (by decide) (by decide) he rfl).imp (to_isi rfl)
theorem m_append (g : Cg X N sc vm tm n) {l : Bool} (ho : PE X o (RE ca C eo)) (ha : PA X (e :: es) (RA ca C as)) (hbase : attributeBase o "append" X.env (eval o X.env) = eval o X.env := by rfl)
    (hfew : ((backTo cpos (starEach (e :: es) X.env)).all (fun x => !x.1) && (backToKw cpos (keywordEach [] X.env)).all (fun x => x.1.isSome)
      && decide ((e :: es).length + ([] : List Keyword).length + (if ([] : List Keyword).isEmpty then 0 else 1) < 30)) = true := by rfl)
    (hline : (apos.endLine == cpos.line) = true := by rfl) (hs : starEach (e :: es) X.env = (false, eval e X.env) :: starEach es X.env := by rfl) (hplain : (backTo cpos (starEach es X.env)).any (·.1) = false := by rfl) :
    PE X (.Call (.Attribute o "append" apos) (e :: es) [] cpos) (RE ca C (.mt l .append eo as)) := (pe_bm PySem.F.plainAttrs_list PySem.F.slot_list_append PySem.F.type_list_append (mt_append' (l := l)) ho ha hbase hfew hline hs hplain).imp (to_mt (by decide))
theorem m_extend (g : Cg X N sc vm tm n) {l : Bool} (ho : PE X o (RE ca C eo)) (ha : PA X (e :: es) (RA ca C as)) (hbase : attributeBase o "extend" X.env (eval o X.env) = eval o X.env := by rfl)
    (hfew : ((backTo cpos (starEach (e :: es) X.env)).all (fun x => !x.1) && (backToKw cpos (keywordEach [] X.env)).all (fun x => x.1.isSome)
      && decide ((e :: es).length + ([] : List Keyword).length + (if ([] : List Keyword).isEmpty then 0 else 1) < 30)) = true := by rfl)
    (hline : (apos.endLine == cpos.line) = true := by rfl) (hs : starEach (e :: es) X.env = (false, eval e X.env) :: starEach es X.env := by rfl) (hplain : (backTo cpos (starEach es X.env)).any (·.1) = false := by rfl) :
    PE X (.Call (.Attribute o "extend" apos) (e :: es) [] cpos) (RE ca C (.mt l .extend eo as)) := (pe_bm PySem.F.plainAttrs_list PySem.F.slot_list_extend PySem.F.type_list_extend (mt_extend' (l := l)) ho ha hbase hfew hline hs hplain).imp (to_mt (by decide))
theorem m_pop (g : Cg X N sc vm tm n) {l : Bool} (ho : PE X o (RE ca C eo)) (hbase : attributeBase o "pop" X.env (eval o X.env) = eval o X.env := by rfl)
    (hline : (apos.endLine == cpos.line) = true := by rfl) : PE X (.Call (.Attribute o "pop" apos) [] [] cpos) (RE ca C (.mt l .pop eo .nil)) := (pe_bm0 PySem.F.plainAttrs_list PySem.F.slot_list_pop PySem.F.type_list_pop (mt_pop' (l := l)) ho hbase hline).imp (to_mt0 (by decide))
theorem m_popAt (g : Cg X N sc vm tm n) {l : Bool} (ho : PE X o (RE ca C eo)) (ha : PA X (e :: es) (RA ca C as)) (hbase : attributeBase o "pop" X.env (eval o X.env) = eval o X.env := by rfl)
    (hfew : ((backTo cpos (starEach (e :: es) X.env)).all (fun x => !x.1) && (backToKw cpos (keywordEach [] X.env)).all (fun x => x.1.isSome)
      && decide ((e :: es).length + ([] : List Keyword).length + (if ([] : List Keyword).isEmpty then 0 else 1) < 30)) = true := by rfl)
    (hline : (apos.endLine == cpos.line) = true := by rfl) (hs : starEach (e :: es) X.env = (false, eval e X.env) :: starEach es X.env := by rfl) (hplain : (backTo cpos (starEach es X.env)).any (·.1) = false := by rfl) :
    PE X (.Call (.Attribute o "pop" apos) (e :: es) [] cpos) (RE ca C (.mt l .popAt eo as)) := (pe_bm PySem.F.plainAttrs_list PySem.F.slot_list_pop PySem.F.type_list_pop (mt_popAt' (l := l)) ho ha hbase hfew hline hs hplain).imp (to_mt (by decide))
theorem m_insert (g : Cg X N sc vm tm n) {l : Bool} (ho : PE X o (RE ca C eo)) (ha : PA X (e :: es) (RA ca C as)) (hbase : attributeBase o "insert" X.env (eval o X.env) = eval o X.env := by rfl)
    (hfew : ((backTo cpos (starEach (e :: es) X.env)).all (fun x => !x.1) && (backToKw cpos (keywordEach [] X.env)).all (fun x => x.1.isSome)
      && decide ((e :: es).length + ([] : List Keyword).length + (if ([] : List Keyword).isEmpty then 0 else 1) < 30)) = true := by rfl)
    (hline : (apos.endLine == cpos.line) = true := by rfl) (hs : starEach (e :: es) X.env = (false, eval e X.env) :: starEach es X.env := by rfl) (hplain : (backTo cpos (starEach es X.env)).any (·.1) = false := by rfl) :
    PE X (.Call (.Attribute o "insert" apos) (e :: es) [] cpos) (RE ca C (.mt l .insert eo as)) := (pe_bm PySem.F.plainAttrs_list PySem.F.slot_list_insert PySem.F.type_list_insert (mt_insert' (l := l)) ho ha hbase hfew hline hs hplain).imp (to_mt (by decide))
theorem m_reverse (g : Cg X N sc vm tm n) {l : Bool} (ho : PE X o (RE ca C eo)) (hbase : attributeBase o "reverse" X.env (eval o X.env) = eval o X.env := by rfl)
    (hline : (apos.endLine == cpos.line) = true := by rfl) : PE X (.Call (.Attribute o "reverse" apos) [] [] cpos) (RE ca C (.mt l .reverse eo .nil)) := (pe_bm0 PySem.F.plainAttrs_list PySem.F.slot_list_reverse PySem.F.type_list_reverse (mt_reverse' (l := l)) ho hbase hline).imp (to_mt0 (by decide))
theorem m_clear (g : Cg X N sc vm tm n) {l : Bool} (ho : PE X o (RE ca C eo)) (hbase : attributeBase o "clear" X.env (eval o X.env) = eval o X.env := by rfl)
    (hline : (apos.endLine == cpos.line) = true := by rfl) : PE X (.Call (.Attribute o "clear" apos) [] [] cpos) (RE ca C (.mt l .clear eo .nil)) := (pe_bm0 PySem.F.plainAttrs_list PySem.F.slot_list_clear PySem.F.type_list_clear (mt_clear' (l := l)) ho hbase hline).imp (to_mt0 (by decide))
theorem m_strip (g : Cg X N sc vm tm n) {l : Bool} (ho : PE X o (RE ca C eo)) (hbase : attributeBase o "strip" X.env (eval o X.env) = eval o X.env := by rfl)
    (hline : (apos.endLine == cpos.line) = true := by rfl) : PE X (.Call (.Attribute o "strip" apos) [] [] cpos) (RE ca C (.mt l .strip eo .nil)) := (pe_bm0 PySem.F.plainAttrs_str PySem.F.slot_str_strip PySem.F.type_str_strip (mt_strip' (l := l)) ho hbase hline).imp (to_mt0 (by decide))
theorem m_get1 (g : Cg X N sc vm tm n) {l : Bool} (ho : PE X o (RE ca C eo)) (ha : PA X (e :: es) (RA ca C as)) (hbase : attributeBase o "get" X.env (eval o X.env) = eval o X.env := by rfl)
    (hfew : ((backTo cpos (starEach (e :: es) X.env)).all (fun x => !x.1) && (backToKw cpos (keywordEach [] X.env)).all (fun x => x.1.isSome)
      && decide ((e :: es).length + ([] : List Keyword).length + (if ([] : List Keyword).isEmpty then 0 else 1) < 30)) = true := by rfl)
    (hline : (apos.endLine == cpos.line) = true := by rfl) (hs : starEach (e :: es) X.env = (false, eval e X.env) :: starEach es X.env := by rfl) (hplain : (backTo cpos (starEach es X.env)).any (·.1) = false := by rfl) :
    PE X (.Call (.Attribute o "get" apos) (e :: es) [] cpos) (RE ca C (.mt l .get1 eo as)) := (pe_bm PySem.F.plainAttrs_dict PySem.F.slot_dict_get PySem.F.type_dict_get (mt_get1 g.hu (l := l)) ho ha hbase hfew hline hs hplain).imp (to_mt (by decide))
theorem m_get2 (g : Cg X N sc vm tm n) {l : Bool} (ho : PE X o (RE ca C eo)) (ha : PA X (e :: es) (RA ca C as)) (hbase : attributeBase o "get" X.env (eval o X.env) = eval o X.env := by rfl)
    (hfew : ((backTo cpos (starEach (e :: es) X.env)).all (fun x => !x.1) && (backToKw cpos (keywordEach [] X.env)).all (fun x => x.1.isSome)
      && decide ((e :: es).length + ([] : List Keyword).length + (if ([] : List Keyword).isEmpty then 0 else 1) < 30)) = true := by rfl)
    (hline : (apos.endLine == cpos.line) = true := by rfl) (hs : starEach (e :: es) X.env = (false, eval e X.env) :: starEach es X.env := by rfl) (hplain : (backTo cpos (starEach es X.env)).any (·.1) = false := by rfl) :
    PE X (.Call (.Attribute o "get" apos) (e :: es) [] cpos) (RE ca C (.mt l .get2 eo as)) := (pe_bm PySem.F.plainAttrs_dict PySem.F.slot_dict_get PySem.F.type_dict_get (mt_get2 g.hu (l := l)) ho ha hbase hfew hline hs hplain).imp (to_mt (by decide))
theorem m_join (g : Cg X N sc vm tm n) {l : Bool} (ho : PE X o (RE ca C eo)) (ha : PA X (e :: es) (RA ca C as)) (hbase : attributeBase o "join" X.env (eval o X.env) = eval o X.env := by rfl)
    (hfew : ((backTo cpos (starEach (e :: es) X.env)).all (fun x => !x.1) && (backToKw cpos (keywordEach [] X.env)).all (fun x => x.1.isSome)
      && decide ((e :: es).length + ([] : List Keyword).length + (if ([] : List Keyword).isEmpty then 0 else 1) < 30)) = true := by rfl)
    (hline : (apos.endLine == cpos.line) = true := by rfl) (hs : starEach (e :: es) X.env = (false, eval e X.env) :: starEach es X.env := by rfl) (hplain : (backTo cpos (starEach es X.env)).any (·.1) = false := by rfl) :
    PE X (.Call (.Attribute o "join" apos) (e :: es) [] cpos) (RE ca C (.mt l .join eo as)) := (pe_bm PySem.F.plainAttrs_str PySem.F.slot_str_join PySem.F.type_str_join (mt_join' (l := l)) ho ha hbase hfew hline hs hplain).imp (to_mt (by decide))
theorem m_split (g : Cg X N sc vm tm n) {l : Bool} (ho : PE X o (RE ca C eo)) (ha : PA X (e :: es) (RA ca C as)) (hbase : attributeBase o "split" X.env (eval o X.env) = eval o X.env := by rfl)
    (hfew : ((backTo cpos (starEach (e :: es) X.env)).all (fun x => !x.1) && (backToKw cpos (keywordEach [] X.env)).all (fun x => x.1.isSome)
      && decide ((e :: es).length + ([] : List Keyword).length + (if ([] : List Keyword).isEmpty then 0 else 1) < 30)) = true := by rfl)
    (hline : (apos.endLine == cpos.line) = true := by rfl) (hs : starEach (e :: es) X.env = (false, eval e X.env) :: starEach es X.env := by rfl) (hplain : (backTo cpos (starEach es X.env)).any (·.1) = false := by rfl) :
    PE X (.Call (.Attribute o "split" apos) (e :: es) [] cpos) (RE ca C (.mt l .split eo as)) := (pe_bm PySem.F.plainAttrs_str PySem.F.slot_str_split PySem.F.type_str_split (mt_split' (l := l)) ho ha hbase hfew hline hs hplain).imp (to_mt (by decide))
theorem m_index (g : Cg X N sc vm tm n) {l : Bool} (ho : PE X o (RE ca C eo)) (ha : PA X (e :: es) (RA ca C as)) (hbase : attributeBase o "index" X.env (eval o X.env) = eval o X.env := by rfl)
    (hfew : ((backTo cpos (starEach (e :: es) X.env)).all (fun x => !x.1) && (backToKw cpos (keywordEach [] X.env)).all (fun x => x.1.isSome)
      && decide ((e :: es).length + ([] : List Keyword).length + (if ([] : List Keyword).isEmpty then 0 else 1) < 30)) = true := by rfl)
    (hline : (apos.endLine == cpos.line) = true := by rfl) (hs : starEach (e :: es) X.env = (false, eval e X.env) :: starEach es X.env := by rfl) (hplain : (backTo cpos (starEach es X.env)).any (·.1) = false := by rfl) :
    PE X (.Call (.Attribute o "index" apos) (e :: es) [] cpos) (RE ca C (.mt l .index eo as)) := (pe_bm PySem.F.plainAttrs_list PySem.F.slot_list_index PySem.F.type_list_index (mt_index' (l := l)) ho ha hbase hfew hline hs hplain).imp (to_mt (by decide))
theorem m_sindex (g : Cg X N sc vm tm n) {l : Bool} (ho : PE X o (RE ca C eo)) (ha : PA X (e :: es) (RA ca C as)) (hbase : attributeBase o "index" X.env (eval o X.env) = eval o X.env := by rfl)
    (hfew : ((backTo cpos (starEach (e :: es) X.env)).all (fun x => !x.1) && (backToKw cpos (keywordEach [] X.env)).all (fun x => x.1.isSome)
      && decide ((e :: es).length + ([] : List Keyword).length + (if ([] : List Keyword).isEmpty then 0 else 1) < 30)) = true := by rfl)
    (hline : (apos.endLine == cpos.line) = true := by rfl) (hs : starEach (e :: es) X.env = (false, eval e X.env) :: starEach es X.env := by rfl) (hplain : (backTo cpos (starEach es X.env)).any (·.1) = false := by rfl) :
    PE X (.Call (.Attribute o "index" apos) (e :: es) [] cpos) (RE ca C (.mt l .sindex eo as)) := (pe_bm PySem.F.plainAttrs_str PySem.F.slot_str_index PySem.F.type_str_index (mt_sindex' (l := l)) ho ha hbase hfew hline hs hplain).imp (to_mt (by decide))
theorem i_lst (h : PE X e (RE ca C ea)) : PI X tg e (RI ca C (.lst ea)) := pi_li h
theorem i_tup (h : PE X e (RE ca C ea)) : PI X tg e (RI ca C (.tup ea)) := pi_tu h
theorem i_str (h : PE X e (RE ca C ea)) : PI X tg e (RI ca C (.str ea)) := pi_st h
theorem i_r1 (g : Cg X N sc vm tm n) (hm : X.mg "range" = none) (ha : PE X a (RE ca C ea)) (hg : sc.names.lookup ("range" : Str) = some .globalImplicit := by rfl) (hs : starEach [a] X.env = [(false, eval a X.env)] := by rfl) : PI X tg (.Call (.Name "range" p) [a] [] pos) (RI ca C (.rng1 ea)) :=
  pi_r1 (gl_of g hg) hm (a_cons ha a_nil hs) hs
theorem i_r2 (g : Cg X N sc vm tm n) (hm : X.mg "range" = none) (ha : PE X a (RE ca C ea)) (hb : PE X b (RE ca C eb)) (hg : sc.names.lookup ("range" : Str) = some .globalImplicit := by rfl) (hs : starEach [a, b] X.env = [(false, eval a X.env), (false, eval b X.env)] := by rfl)
    (hs2 : starEach [b] X.env = [(false, eval b X.env)] := by rfl) : PI X tg (.Call (.Name "range" p) [a, b] [] pos) (RI ca C (.rng2 ea eb)) :=
  pi_r2 (gl_of g hg) hm (a_cons ha (a_cons hb a_nil hs2) (hs.trans (by rw [hs2]))) hs hs2
theorem i_en {elts : List Expr} {kk : Nat} (g : Cg X N sc vm tm n) (hm : X.mg "enumerate" = none) (ha : PE X a (RE ca C ea)) (hg : sc.names.lookup ("enumerate" : Str) = some .globalImplicit := by rfl) (hs : starEach [a] X.env = [(false, eval a X.env)] := by rfl) :
    PI X (.Tuple elts kk tpos) (.Call (.Name "enumerate" p) [a] [] pos) (RI ca C (.enumL ea)) := pi_en (gl_of g hg) hm (a_cons ha a_nil hs) hs
theorem i_rv (g : Cg X N sc vm tm n) (hm : X.mg "reversed" = none) (ha : PE X a (RE ca C ea)) (hg : sc.names.lookup ("reversed" : Str) = some .globalImplicit := by rfl) (hs : starEach [a] X.env = [(false, eval a X.env)] := by rfl) :
    PI X tg (.Call (.Name "reversed" p) [a] [] pos) (RI ca C (.revL ea)) := pi_rv (gl_of g hg) hm (a_cons ha a_nil hs) hs
theorem i_zi {elts : List Expr} {kk : Nat} (g : Cg X N sc vm tm n) (hm : X.mg "zip" = none) (ha : PE X a (RE ca C ea)) (hb : PE X b (RE ca C eb)) (hg : sc.names.lookup ("zip" : Str) = some .globalImplicit := by rfl)
    (hs : starEach [a, b] X.env = (false, eval a X.env) :: starEach [b] X.env := by rfl) (hs2 : starEach [b] X.env = [(false, eval b X.env)] := by rfl) (hpl : (backTo pos (starEach [b] X.env)).any (·.1) = false := by rfl) : PI X (.Tuple elts kk tpos) (.Call (.Name "zip" p) [a, b] [] pos) (RI ca C (.zipL ea eb)) :=
  pi_zi (gl_of g hg) hm (a_cons ha (a_cons hb a_nil hs2) hs) hs hpl
theorem g_nm (g : Cg X N sc vm tm n) (i : Nat) (hN : N[i]? = some x := by rfl) (hv : tm[i]? = some true := by rfl) : PG X (.Name x pos) (RG ca (.nm i)) :=
  have h := g.tgt i x hv hN
  pg_nm (g.hN ▸ g.nd) (g.hN ▸ hN) (g.hsc ▸ h.1) (g.hsc ▸ h.2)
theorem g_nil : PGs X [] (RGs ca .nil) := pgs_nl
theorem g_cons {q : Tg} {qs : Tgs} (h1 : PG X e (RG ca q)) (h2 : PGs X es (RGs ca qs)) (hs : (assignEach (e :: es) X.env).map (·.2) = assign e X.env :: (assignEach es X.env).map (·.2) := by rfl) : PGs X (e :: es) (RGs ca (.cons q qs)) := pgs_cn h1 h2 hs
def lenTgs : Tgs → Nat
  | .nil => 0
  | .cons _ t => lenTgs t + 1
theorem asgTs_len : ∀ (t : Tgs) (us : List U) (ρ ρ' : Rho), asgTs O T t us ρ = some ρ' → us.length = lenTgs t
  | .nil, [], _, _, _ => rfl
  | .nil, _ :: _, _, _, h => by rw [asgTs] at h <;> first | cases h | simp
  | .cons _ _, [], _, _, h => by rw [asgTs] at h <;> first | cases h | simp
  | .cons t ts, u :: us, ρ, ρ', h => by
    rw [asgTs] at h
    split at h
    · rename_i r e
      have := asgTs_len ts us r ρ' h
      simp [lenTgs, this]
    · cases h
theorem g_tp {kk : Nat} {qs : Tgs} (g : Cg X N sc vm tm n) (h : PGs X es (RGs ca qs)) (hn : (assignEach es X.env).length = lenTgs qs := by rfl) (hst : (assignEach es X.env).findIdx? (·.1) = none := by rfl) : PG X (.Tuple es kk pos) (RG ca (.tp qs)) :=
  pg_tp g.calm h hn hst fun _ _ us ρ ρ' e => asgTs_len qs us ρ ρ' e
theorem c_no : PTs X [] (RT ca C (.c (.bool true))) := pts_no
theorem c_if (h : PT X c (RT ca C ec)) : PTs X [c] (RT ca C ec) := pts_one h
def subL (a b : List Nat) : Bool := a.all fun i => b.contains i
theorem subL_ok {a b : List Nat} (h : subL a b = true) : ∀ i ∈ a, i ∈ b := by
  intro i hi
  unfold subL at h
  rw [List.all_eq_true] at h
  simpa using h i hi
theorem y_lc (g : Cg X N sc vm tm n) {l : Bool} {q : Tg} {it : IT} {ct ce : CE} {ifs : List Expr} {scope : Scope} {own : List (Str × Nat)} (sc' : Scope) (vm' tm' : List Bool) (hr : relS scope sc = sc') (hv : visAll N sc' vm' = true) (ht' : tgtBlk N scope sc' tm' = true) (ok : blkC N sc scope own = true) (hsl : subL (slotsT q) (own.map (·.2)) = true)
    (hi : PI X tg iter (RI ca C it))
    (k : ∀ Y : Cx, Y.prog = X.prog → Y.w = X.w → Y.K = X.K → Y.mg = X.mg → Y.base = X.base → Cg Y N sc' vm' tm' n → PG Y tg (RG ca q) ∧ PTs Y ifs (RT ca C ct) ∧ PE Y elt (RE ca C ce)) (hs : ∀ x, foldedSetIterable iter X.env x = pure x := by intro _; rfl) :
    PE X (.ListComp elt [⟨tg, iter, ifs, 0⟩] scope pos) (RE ca C (.comp l ce q it ct (own.map (·.2)))) := by
  have kk := fun s H A cl fp => k (X.blk s H scope (compEnvC scope cl A X.env) fp) rfl rfl rfl rfl rfl (g.blk sc' hr hv ht' s H A cl fp)
  refine (pe_lc g.calm (g.hN ▸ g.nd) hi (by rw [g.hN, g.hsc]; exact blkOk_by ok) (fun s H A cl fp => (kk s H A cl fp).1) (fun s H A cl fp => (kk s H A cl fp).2.1) (fun s H A cl fp => (kk s H A cl fp).2.2) hs).imp (to_comp (subL_ok hsl))
theorem s_lc (g : Cg X N sc vm tm n) (i : Nat) {y : Str} {py spos : Pos} {l : Bool} {q : Tg} {it : IT} {ct ce : CE} {ifs : List Expr} {scope : Scope} {own : List (Str × Nat)} (sc' : Scope) (vm' tm' : List Bool) (hr : relS scope sc = sc') (hv : visAll N sc' vm' = true) (ht' : tgtBlk N scope sc' tm' = true) (ok : blkC N sc scope own = true) (hsl : subL (slotsT q) (own.map (·.2)) = true)
    (hi : PI X tg iter (RI ca C it))
    (k : ∀ Y : Cx, Y.prog = X.prog → Y.w = X.w → Y.K = X.K → Y.mg = X.mg → Y.base = X.base → Cg Y N sc' vm' tm' n → PG Y tg (RG ca q) ∧ PTs Y ifs (RT ca C ct) ∧ PE Y elt (RE ca C ce))
    (hsw : sc.names.lookup y = some .local → swapsWith (.ListComp elt [⟨tg, iter, ifs, 0⟩] scope pos) (some (.Name y py)) spos.line X.env = pure true) (hy : N[i]? = some y := by rfl) (hyl : sc.names.lookup y = some .local := by rfl) (hs : ∀ x, foldedSetIterable iter X.env x = pure x := by intro _; rfl) :
    PS X (.Assign [.Name y py] (.ListComp elt [⟨tg, iter, ifs, 0⟩] scope pos) spos) (RS ca C (.asg (.nm i) (.comp l ce q it ct (own.map (·.2))))) := by
  have kk := fun s H A cl fp => k (X.blk s H scope (compEnvC scope cl A X.env) fp) rfl rfl rfl rfl rfl (g.blk sc' hr hv ht' s H A cl fp)
  refine (ps_setLc g.calm (g.hN ▸ g.nd) (g.hN ▸ hy) (g.hsc ▸ hyl) (hsw hyl) hi (by rw [g.hN, g.hsc]; exact blkOk_by ok) (fun s H A cl fp => (kk s H A cl fp).1) (fun s H A cl fp => (kk s H A cl fp).2.1) (fun s H A cl fp => (kk s H A cl fp).2.2) hs).imp fun D σ H => ?_
  rintro ⟨φ, G, O, ρ, T, t, h⟩
  rw [denS] at h
  refine to_comp (subL_ok hsl) σ H _ ⟨φ, G, O, ρ, T, t, Pc.imp h.of ?_⟩
  rintro v H1 ⟨φ1, G1, T1, u, f1, s1, r1, h1⟩
  simp only [asgT] at h1
  exact h1 _ φ1 G1 H1 Fut.refl (At.set ⟨s1, f1.lo t.l, t.n⟩ r1 i)
theorem b_nil : PSs X [] (RBl ca C .nil) := pss_nl
theorem b_cons {st : Stmt} {sts : List Stmt} {cs : CS} {cb : CB} (h1 : PS X st (RS ca C cs)) (h2 : PSs X sts (RBl ca C cb)) : PSs X (st :: sts) (RBl ca C (.cons cs cb)) := pss_cn h1 h2
theorem s_as {q : Tg} (he : PE X e (RE ca C ea)) (hg : PG X tg (RG ca q)) (hs : swapsWithSole [tg] e pos.line X.env = pure false := by rfl) (hw : swappedStores [tg] e X.env = pure none := by rfl) (hm : (assignEach [tg] X.env).map (·.2) = [assign tg X.env] := by rfl) : PS X (.Assign [tg] e pos) (RS ca C (.asg q ea)) := ps_as he hg hs hw hm
theorem s_ex (he : PE X e (RE ca C ea)) (hs : swapsWith e none pos.line X.env = pure false := by rfl) : PS X (.Expr e pos) (RS ca C (.ex ea)) := ps_ex he hs
theorem s_ret (he : PE X e (RE ca C ea)) : PS X (.Return (some e) pos) (RS ca C (.ret ea)) := ps_rt he
theorem s_retN : PS X (.Return none pos) (RS ca C .retN) := ps_rtN
theorem s_brk : PS X (.Break pos) (RS ca C .brk) := ps_br
theorem s_cnt : PS X (.Continue pos) (RS ca C .cnt) := ps_ct
theorem s_pass : PS X (.Pass pos) (RS ca C .pass) := ps_pa
theorem s_bad {st : Stmt} : PS X st (RS ca C .bad) := ps_bd
theorem s_if {t : Expr} {a b : List Stmt} {ct : CE} {cx cy : CB} (ht : PT X t (RT ca C ct)) (ha : PSs X a (RBl ca C cx)) (hb : PSs X b (RBl ca C cy)) : PS X (.If t a b pos) (RS ca C (.ite ct cx cy)) := ps_it ht ha hb
theorem s_wh (g : Cg X N sc vm tm n) {t : Expr} {b : List Stmt} {ct : CE} {cb : CB} {k : Nat} (ht : PT X t (RT ca C ct)) (hb : PSs X b (RBl ca C cb)) : PS X (.While t b [] pos) (RS ca C (.wh k ct cb)) := ps_wh (fun e s h => absurd h (g.never e s)) ht hb
theorem s_for (g : Cg X N sc vm tm n) {b : List Stmt} {q : Tg} {it : IT} {cb : CB} (hi : PI X tg e (RI ca C it)) (hg : PG X tg (RG ca q)) (hb : PSs X b (RBl ca C cb)) (hs : ∀ x, foldedSetIterable e X.env x = pure x := by intro _; rfl) : PS X (.For tg e b [] pos) (RS ca C (.for_ q it cb)) :=
  ps_fo (fun e s h => absurd h (g.never e s)) g.calm hi hg hb hs
theorem s_setf {c : Nat} (F : Cls X.K (ca c) ∧ NoAttr X.K (ca c) f) (ho : PE X o (RE ca C eo)) (he : PE X e (RE ca C ea)) (hs : swapsWith e (some (.Attribute o f pos')) pos.line X.env = pure false := by rfl) : PS X (.Assign [.Attribute o f pos'] e pos) (RS ca C (.setf c eo f ea)) :=
  (ps_fld ho he hs).imp (to_setf F.1 F.2)
theorem s_seti (g : Cg X N sc vm tm n) (he : PE X e (RE ca C ea)) (ho : PE X o (RE ca C eo)) (hi : PE X i (RE ca C ec)) (hs : swapsWithSole [.Subscript o i pos'] e pos.line X.env = pure false := by rfl) (hw : swappedStores [.Subscript o i pos'] e X.env = pure none := by rfl) (hm : (assignEach [.Subscript o i pos'] X.env).map (·.2) = [assign (.Subscript o i pos') X.env] := by rfl)
    (hpg : PSet X (rSet3 ca) → PG X (.Subscript o i pos') (gSub (RE ca C eo) (RE ca C ec) (rSet3 ca))) : PS X (.Assign [.Subscript o i pos'] e pos) (RS ca C (.seti eo ec ea)) :=
  (ps_asg he (hpg (set_any g.hu)) hs hw hm).imp to_seti
end
end Y

set_option Elab.async false
set_option linter.all false
set_option maxRecDepth 100000
set_option maxHeartbeats 1000000
namespace Y
open PySem PySem.Spec PyProof.Rows L2
abbrev cn (G : Pg) (n : Nat) : Cn := ⟨run G n, run G n, G.glob⟩
theorem run_len {G : Pg} {j np ns : Nat} {b : CB} (hG : G.defs j = some ⟨np, ns, b⟩) (n : Nat) (O : Cs) (us : List U) (T : Cs) (h : us.length ≠ np) : run G n O j us T = .fail := by
  cases n with
  | zero => rfl
  | succ n =>
    rw [run, hG]
    exact if_neg h
section
variable {P : Program} {w : World} {K : PySem.W.Frag} {mg : Str → Option Value} {base : Heap} {ca : Nat → Addr} {φ : List Addr} {Gh : Hp}
theorem start_lo : ∀ {vs : List V} {us : List U} (k : Nat), RpUs Gh φ vs us → Lo Gh φ (vs.map some ++ List.replicate k none) (us.map some ++ List.replicate k none) := by
  intro vs us k r i u h
  have hl := r.length
  by_cases hi : i < us.length
  · rw [List.getElem?_append_left (by simpa using hi), List.getElem?_map] at h
    simp only [Option.map_eq_some_iff, Option.some.injEq, exists_eq_right] at h
    obtain ⟨v, h1, h2⟩ := r.get h
    refine ⟨v, ?_, h2⟩
    rw [List.getElem?_append_left (by simp; omega), List.getElem?_map, h1]
    rfl
  · rw [List.getElem?_append_right (by simp; omega), List.getElem?_replicate] at h
    split at h <;> cases h
/-- a def keeps its promise -/
theorem def_ok {x qual : Str} {st : Stmt} {f : Addr} {fd : FuncData} {N ps : List Str} {sc : Scope} {vm : List Bool} {G : Pg} {j np ns n : Nat} {b : CB} (F : Fun K x qual st f fd) (hsc : defScope st = sc) (S : FnScope N ps sc) (hG : G.defs j = some ⟨np, ns, b⟩) (hps : ps.length = np) (hns : N.length = ns)
    (hn : decide N.Nodup = true) (hv : visAll N sc vm = true) (ht : tgtAll N sc vm = true)
    (hb : ∀ X : Cx, X.prog = P → X.w = w → X.K = K → X.mg = mg → X.base = base → Cg X N sc vm vm (2 * n + 2) → PSs X (defBody st) (RBl ca (cn G n) b)) : FnOk P w K mg base CX0 (2 * n + 3) f fd ps (spR ca (run G (n + 1)) j np) := by
  subst hsc
  refine F.ok S (fun vs H Q E h => ?_) (fun cdv A outer s H vs Q E hr h => ⟨_, hb _ rfl rfl rfl rfl rfl (Cg.ofDef hn hv ht hr), ?_⟩)
  · obtain ⟨φ, G0, O, T, us, hl, s, r, q⟩ := h
    rw [r.length, hl, hps]
  · obtain ⟨φ, G0, O, T, us, hl, s, r, q⟩ := h
    rw [run, hG] at q
    have q : Pc ca rU φ G0 O (if us.length = np then match denB (cn G n) O b (us.map some ++ List.replicate (ns - us.length) none) T with
    | .nx _ T' => .ok (.d .none) T'
    | .rt u T' => .ok u T'
    | .exc c fs _ T' => .exc c fs T'
    | _ => .fail else .fail) Q := q
    rw [if_pos hl] at q
    refine ⟨φ, G0, O, us.map some ++ List.replicate (ns - us.length) none, T, ⟨s, ?_, ?_⟩, ?_⟩
    · show Lo G0 φ (vs.map some ++ List.replicate (N.length - vs.length) none) _
      rw [hns, r.length]
      exact start_lo _ r
    · show (vs.map some ++ List.replicate (N.length - vs.length) none).length = _
      simp [hns, r.length]
    · cases e : denB (cn G n) O b (us.map some ++ List.replicate (ns - us.length) none) T with
      | nx ρ T' =>
        rw [e] at q
        exact fun σ φ' G' H' f t => q .non φ' G' H' f t.s (.d .non)
      | rt u T' =>
        rw [e] at q
        exact fun v φ' G' H' f s r => q v φ' G' H' f s r
      | bk ρ T' => rw [e] at q; exact q.elim
      | ct ρ T' => rw [e] at q; exact q.elim
      | exc => rw [e] at q; exact q.elim
      | fail => rw [e] at q; exact q.elim
/-- at level 0 nothing is promised -/
theorem def_0 {kl : Nat} {f : Addr} {fd : FuncData} {ps : List Str} {G : Pg} {j np : Nat} : FnOk P w K mg base CX0 kl f fd ps (spR ca (run G 0) j np) where
  len := by
    rintro vs H Q E ⟨φ, G0, O, T, us, hl, s, r, q⟩
    exact q.elim
  run := by
    rintro A outer s H args us vs Q E hr e0 hb hv ⟨φ, G0, O, T, us, hl, s, r, q⟩
    exact q.elim
end
/-- no list among what the top has written -/
def NoL (K : PySem.W.Frag) : Prop := ∀ (a : Addr) (o : Obj), K.lookup a = some o → o.cls ≠ .type "list"
/-- the law's promise -/
theorem law_imp {P : Program} {w : World} {K : PySem.W.Frag} {mg : Str → Option Value} {base : Heap} {ca : Nat → Addr} {k j : Nat} {f : Addr} {fd : FuncData} {ps : List Str} {call : Cs → Nat → List U → Cs → R U} (F : FnOk P w K mg base CX0 k f fd ps (spR ca call j 1)) (nl : NoL K)
    (h : ∀ ns : List Int, ns.length ≤ 63 → ∃ T, call [] j [.d (.list (ns.map .int))] [] = .ok (.d (.bool true)) T) : FnOk P w K mg base CX0 k f fd ps (fun vs H Q _ => ∃ (a : Addr) (ns : List Int), vs = [.ref a] ∧ SqL K H a (ns.map V.int) ∧ ns.length ≤ 63 ∧ ∀ H', Q (.bl true) H') :=
  F.imp fun vs H Q E => by
    rintro ⟨a, ns, rfl, hS, hl, q⟩
    have hR : Rd H a (.lst (ns.map V.int)) := by
      rcases hS with hS | ⟨o, its, n, h1, h2, _⟩
      · exact hS
      · exact absurd h2 (nl a o h1)
    have hr : Rps H (ns.map V.int) (ns.map PyData.int) := by
      clear hR hS hl
      induction ns with
      | nil => exact .nil
      | cons n ns ih => exact .cons (.int n) ih
    obtain ⟨T, e⟩ := h ns hl
    refine ⟨[], H, [], [], [.d (.list (ns.map .int))], rfl, ⟨rfl, List.nodup_nil, Ex.refl H, fun i a c h => by simp at h, fun i a h => by simp at h, fun i a c h => by simp at h⟩, .cons (.d (.lst hR hr)) .nil, ?_⟩
    rw [e]
    intro v φ' G' H' f s r
    cases r with
    | d r => cases r; exact q H'
/-- the law's promise, the script's bits told -/
theorem law_impB {P : Program} {w : World} {K : PySem.W.Frag} {mg : Str → Option Value} {base : Heap} {ca : Nat → Addr} {k j : Nat} {f : Addr} {fd : FuncData} {ps : List Str} {call : Cs → Nat → List U → Cs → R U} (F : FnOk P w K mg base CX0 k f fd ps (spR ca call j 1)) (nl : NoL K)
    (h : ∀ ns : List Int, ns.length ≤ 63 → (∀ z ∈ ns, Builtin.Int.intBits z ≤ 1048576) → ∃ T, call [] j [.d (.list (ns.map .int))] [] = .ok (.d (.bool true)) T) : FnOk P w K mg base CX0 k f fd ps (fun vs H Q _ => ∃ (a : Addr) (ns : List Int), vs = [.ref a] ∧ SqL K H a (ns.map V.int) ∧ ns.length ≤ 63 ∧ (∀ z ∈ ns, Builtin.Int.intBits z ≤ 1048576) ∧ ∀ H', Q (.bl true) H') :=
  F.imp fun vs H Q E => by
    rintro ⟨a, ns, rfl, hS, hl, hbits, q⟩
    have hR : Rd H a (.lst (ns.map V.int)) := by
      rcases hS with hS | ⟨o, its, n, h1, h2, _⟩
      · exact hS
      · exact absurd h2 (nl a o h1)
    have hr : Rps H (ns.map V.int) (ns.map PyData.int) := by
      clear hR hS hl hbits
      induction ns with
      | nil => exact .nil
      | cons n ns ih => exact .cons (.int n) ih
    obtain ⟨T, e⟩ := h ns hl hbits
    refine ⟨[], H, [], [], [.d (.list (ns.map .int))], rfl, ⟨rfl, List.nodup_nil, Ex.refl H, fun i a c h => by simp at h, fun i a h => by simp at h, fun i a c h => by simp at h⟩, .cons (.d (.lst hR hr)) .nil, ?_⟩
    rw [e]
    intro v φ' G' H' f s r
    cases r with
    | d r => cases r; exact q H'
end Y

set_option Elab.async false
set_option linter.all false
set_option maxRecDepth 100000
set_option maxHeartbeats 1000000
namespace Y
open PySem PySem.Spec PyProof.Rows L2
set_option maxHeartbeats 2000000 in
theorem enum_newT (t : Addr) (items : Array Value) :
    Meets (Builtin.«enumerate.__new__» ⟨[.type "enumerate", .ref t], []⟩) (fun _ R s => s.heap.IsTuple t items ∧
      R (.ok (.ret (.ref (s.heap.push { cls := .type "tuple_iterator", data := .fields #[.ref t, .int 0 0] }).objs.size)))
        { s with heap := (s.heap.push { cls := .type "tuple_iterator", data := .fields #[.ref t, .int 0 0] }).push { cls := .type "enumerate", data := .fields #[.none, .bool false, .ref s.heap.objs.size, rawInt 0, .none, .none] } }) :=
  .of_wp fun prog w A R s h => by
    obtain ⟨hp, g, d, tk, os⟩ := s; obtain ⟨h1, h⟩ := h
    have hsub := sub_enumerate
    have q1 : ∀ {A' : Around} {E : Value → Shared → Prop} {Q : Value → Shared → Prop}, Q (.ref hp.objs.size) ⟨hp.push { cls := .type "tuple_iterator", data := .fields #[.ref t, .int 0 0] }, g, d, tk, os⟩ → wpAny (model prog w) A' (pyIter (.ref t)) Q E ⟨hp, g, d, tk, os⟩ :=
      fun q => (begins_tuple t items).iter prog w _ _ ⟨hp, g, d, tk, os⟩ _ h1 q
    wp_walk using q1
    refine wpAny_stack_any fun st => wpAny_pure ?_
    split
    · rename_i c _ _ _ _ _
      cases (c == Value.type "enumerate")
      · wp_walk using q1
        exact ⟨_, rfl, h⟩
      · wp_walk using q1
        exact ⟨_, rfl, h⟩
    · wp_walk using q1
      exact ⟨_, rfl, h⟩
section
variable {prog : Program} {w : World} {A : Around} {E : Value → Shared → Prop} {s : Shared}
theorem call_enumT {l : Addr} {items : Array Value} {Q : Value → Shared → Prop} (hL : s.heap.IsTuple l items)
    (h : ∀ h', IsEnum h' (s.heap.objs.size + 1) s.heap.objs.size 0 .none → h'.IsTupleIter s.heap.objs.size l 0 → h'.objs.size = s.heap.objs.size + 2 →
      (∀ b o, s.heap.get? b = some o → h'.get? b = some o) → Q (.ref (s.heap.objs.size + 1)) { s with heap := h' }) :
    wpAny (model prog w) A (call (.type "enumerate") [.ref l]) Q E s := by
  refine callType_new F.called_enumerate (by decide) (F.typeCall_enumerate_1 _) (F.newCall_enumerate_1 _) (fun obj => F.args_object_init_2 obj _) F.entry_enumerate_new
    (enum_newT l items) ⟨hL, ?_⟩
  have hz : (s.heap.push { cls := .type "tuple_iterator", data := .fields #[.ref l, .int 0 0] }).objs.size = s.heap.objs.size + 1 := Heap.size_push ..
  show _ ∧ _
  rw [hz]
  have he : IsEnum ((s.heap.push { cls := .type "tuple_iterator", data := .fields #[.ref l, .int 0 0] }).push
      { cls := .type "enumerate", data := .fields #[.none, .bool false, .ref s.heap.objs.size, rawInt 0, .none, .none] }) (s.heap.objs.size + 1) s.heap.objs.size 0 .none := by
    have := Heap.get?_push_size (s.heap.push { cls := .type "tuple_iterator", data := .fields #[.ref l, .int 0 0] })
      (o := { cls := .type "enumerate", data := .fields #[.none, .bool false, .ref s.heap.objs.size, rawInt 0, .none, .none] }) rfl
    rw [hz] at this; exact this
  refine ⟨⟨_, he, rfl⟩, h _ he ⟨_, Heap.get?_push_of_some _ (Heap.get?_push_size _ rfl), rfl, rfl⟩ (by rw [Heap.size_push, hz]) fun b o x => Heap.get?_push_of_some _ (Heap.get?_push_of_some _ x)⟩
end
section
variable {prog : Program} {w : World} {A : Around} {E : Value → Shared → Prop} {s : Shared}
theorem enumT_end {e it l : Addr} {i : Nat} {c : Int} {items : Array Value} {old : Value} {Q : Option Value → Shared → Prop} (hh : A.handled = none)
    (he : IsEnum s.heap e it c old) (hit : s.heap.IsTupleIter it l i) (hl : s.heap.IsTuple l items) (hx : items[i]? = none)
    (hQ : ∀ h', Heap.ExtBut it s.heap h' → Q none { s with heap := h' }) : wpAny (model prog w) A (pyNext (.ref e)) Q E s := by
  have hT : s.TypeIs (.ref e) "enumerate" := ⟨_, he, rfl⟩
  unfold pyNext
  refine wpAny_bind (wpAny_attempt (wpAny_callSpecial?_slot (name := Str.ofString "__next__") hT F.slot_enumerate_next
    (wpAny_call_entry F.slot_enumerate_next hT F.entry_enumerate_next ?_ (F.args_enumerate_next_1 _))))
  show wpAny _ _ (field (.ref e) 2 >>= _) _ _ _
  refine wpAny_bind (wpAny_field he rfl (x := .ref it) rfl ?_)
  refine wpAny_bind (wpAny_nextOf_tuple_end hh hit hl hx fun h' x he' hx' => ?_)
  obtain ⟨o, ho, hc⟩ := hx'
  refine wpAny_bind (wpAny_isInstance (T := "StopIteration") (b := true) ⟨o, ho, hc⟩ isSubtype_stop ?_)
  exact wpAny_pure (hQ _ he')
end
/-- the tuple at a, each item in a new pair -/
def IteT (K : PySem.W.Frag) (a : Addr) : It :=
  ⟨fun i H => ∃ (xs : List V) (x : V), SqT K H a xs ∧ xs[i]? = some x, fun i H v H' => ∃ T x, v = .ref T ∧ H T = none ∧ H' = upd H T (.tup [.int (i : Nat), x]) ∧ ∀ xs, SqT K H a xs → xs[i]? = some x, fun i H => ∃ xs : List V, SqT K H a xs ∧ xs.length ≤ i⟩
theorem turn_enumT {P : Program} {w : World} {K : PySem.W.Frag} {elts : List Expr} {kk : Nat} {tpos : Pos} (a e it : Addr) :
    Turn P w K (.Tuple elts kk tpos) (IteT K a) [e, it] e (fun i h => (∃ old, IsEnum h e it ((i : Nat) : Int) old) ∧ h.IsTupleIter it a i ∧ e ≠ it) where
  mem := by simp
  obj := fun i h st b hb => by
    obtain ⟨⟨old, he⟩, ⟨o, ho, hc, hd⟩, _⟩ := st
    have e' : b = e ∨ b = it := by simpa using hb
    rcases e' with z | z
    · rw [z]; exact ⟨_, he, fun v q => nomatch q⟩
    · rw [z]; exact ⟨o, ho, fun v q => by rw [hd] at q; cases q⟩
  keep := fun i h h' st k => let ⟨⟨old, he⟩, hi, hne⟩ := st; ⟨⟨old, k e (by simp) _ he⟩, hi.at fun o q => k it (by simp) o q, hne⟩
  item := by
    intro X hP hw hK hc i pins s σ H E I hf st hg
    subst hP hw hK
    obtain ⟨⟨old, he⟩, hit, hne⟩ := st
    obtain ⟨xs, x, hq, hx⟩ := hg
    obtain ⟨its, rv, p, hz⟩ := I.tuple hq
    obtain ⟨u, hu, ru⟩ := rv.get hx
    have hel : e < s.heap.objs.size := Heap.lt_size he
    have hil : it < s.heap.objs.size := by obtain ⟨_, q, _⟩ := hit; exact Heap.lt_size q
    have hlt : i < its.length := by
      have := (List.getElem?_eq_some_iff.mp hu).1
      exact this
    have hat : a ≠ it := by
      rintro rfl
      obtain ⟨o1, g1, c1, _⟩ := hit
      obtain ⟨o2, g2, c2, _⟩ := p
      rw [g1] at g2; cases g2
      rw [c1] at c2
      injection c2 with q
      exact absurd q (by decide)
    have hae : a ≠ e := by
      rintro rfl
      obtain ⟨o2, g2, c2, _⟩ := p
      have he' : s.heap.get? a = _ := he
      rw [he'] at g2; cases g2
      have c2 : Value.type "enumerate" = .type "tuple" := c2
      injection c2 with q
      exact absurd q (by decide)
    refine wpAny_pyNext_enum_itemD (n := its.toArray.size) (Draws.tuple (A := X.A.in1) (show X.A.in1.handled = none from I.ok.hd hc) it a hat its.toArray) he ⟨hit, p⟩ (by simpa using hlt) hne (by simp [hne, hae.symm]) fun y h' tk hP ho hst hT hsz hk => ?_
    obtain rfl : y = u := by
      have : its.toArray[i]? = some y := hP
      rw [List.getElem?_toArray, hu] at this
      cases this; rfl
    refine ⟨_, rfl, wpAny_letOwnedTupleGo_enum (s := { s with heap := h', toks := tk + 1 }) ho fun h'' he' sb => ?_⟩
    have hT2 : h''.get? s.heap.objs.size = some { cls := .type "tuple", data := .seq #[.int i tk, y] } := (sb.2 _ (Nat.ne_of_gt hel)).trans hT
    have new : ObjOk X.prog X.w (upd H s.heap.objs.size (.tup [.int (i : Nat), x])) h'' s.heap.objs.size (.tup [.int (i : Nat), x]) :=
      ⟨by show 2 ≤ sizeLine; decide, [.int i tk, y], .cons ⟨_, rfl⟩ (.cons ru .nil), ⟨_, hT2, rfl, _, rfl⟩⟩
    have I1 : Inv X pins σ (upd H s.heap.objs.size (.tup [.int (i : Nat), x])) { s with heap := h'', toks := tk + 1 } :=
      I.turnedNew (ch := [e, it]) (fun b ob hb q => (sb.2 b (fun z => hb (by simp [z]))).trans (hk b ob (fun z => hb (by simp [z])) (fun z => hb (by simp [z])) q)) hf (Nat.le_refl _) new
    refine ⟨.ref s.heap.objs.size, _, I1, rfl, ⟨_, x, rfl, I.hok.fresh (Nat.le_refl _), rfl, fun ys hy => by rw [I.tuple_inj hy hq]; exact hx⟩, ⟨⟨y, ?_⟩, hst.1.at fun o q => (sb.2 it (Ne.symm hne)).trans q, hne⟩, fun b hb => ?_⟩
    · have e1 : ((i + 1 : Nat) : Int) = (i : Int) + 1 := by omega
      rw [e1]; exact he'
    · have hb' : b < s.heap.objs.size := by
        have e' : b = e ∨ b = it := by simpa using hb
        rcases e' with z | z
        · rw [z]; exact hel
        · rw [z]; exact hil
      rw [upd_ne (Nat.ne_of_lt hb')]
      exact (hf b hb).1
  done := by
    intro X hP hw hK hc i pins s σ H E I hf st hg
    subst hP hw hK
    obtain ⟨⟨old, he⟩, hit, hne⟩ := st
    obtain ⟨xs, hq, hx⟩ := hg
    obtain ⟨its, rv, p, hz⟩ := I.tuple hq
    obtain ⟨f0, f1, f2, f3, f4, f5⟩ := hf it (by simp)
    have hl := rv.length
    have hat : a ≠ it := by
      rintro rfl
      obtain ⟨o1, g1, c1, _⟩ := hit
      obtain ⟨o2, g2, c2, _⟩ := p
      rw [g1] at g2; cases g2
      rw [c1] at c2
      injection c2 with q
      exact absurd q (by decide)
    -- the iterator stands at its end
    exact enumT_end (I.ok.hd hc) he hit p (by simp; omega) fun h' eb => ⟨rfl, I.turned (t' := s.toks) (fun b o hb q => eb b o hb q) f0 f1 f3 f4 f5⟩
  self := fun A i s Q E st h => let ⟨⟨_, he⟩, _⟩ := st; wpAny_pyIter_enum he h
def nolB (K : PySem.W.Frag) : Bool := K.all fun p => match p.2.cls with | .type t => !(t == "list") | _ => true
theorem nol_of {K : PySem.W.Frag} (h : nolB K = true) : NoL K := by
  intro a o e q
  have hm : (a, o) ∈ K := by
    clear h
    induction K with
    | nil => simp at e
    | cons p K ih =>
      obtain ⟨b, o'⟩ := p
      rw [List.lookup_cons] at e
      cases hb : a == b with
      | true =>
        rw [hb] at e
        have hb := eq_of_beq hb
        cases e
        subst hb
        exact List.mem_cons_self
      | false =>
        rw [hb] at e
        exact List.mem_cons_of_mem _ (ih e)
  unfold nolB at h
  rw [List.all_eq_true] at h
  have := h _ hm
  simp only [q] at this
  simp at this
def iEnumT (K : PySem.W.Frag) (ta : TA) : TI := fun σ H R => ta σ H fun vs H1 => ∃ a xs, vs = [.ref a] ∧ SqT K H1 a xs ∧ R (IteT K a) H1
theorem pi_enumT {X : Cx} {e : Expr} {ta : TA} {p pos tpos : Pos} {elts : List Expr} {kk : Nat} (hg : Gl X "enumerate") (hm : X.mg "enumerate" = none) (ha : PA X [e] ta) (hs : starEach [e] X.env = [(false, eval e X.env)] := by rfl) :
    PI X (.Tuple elts kk tpos) (.Call (.Name "enumerate" p) [e] [] pos) (iEnumT X.K ta) := by
  refine ⟨fun pins s σ H R I h => ?_⟩
  refine Call_ (ld_blt I hg hm boot_enumerate (PyProof.Rows.callWith_type1 (thn (ha.run pos pins s σ H _ I h) fun us s1 ⟨vs, H1, I1, r1, q1⟩ => ?_) hs rfl))
  obtain ⟨a, xs, ex, hq, q⟩ := q1
  subst ex
  cases r1 with
  | cons r rr =>
    cases rr
    cases r
    obtain ⟨its, rv, p', hz⟩ := I1.tuple hq
    refine call_enumT p' fun h' he hit hsz hk => wpAny_pyIter_enum he ?_
    have I2 : Inv X pins σ H1 { s1 with heap := h' } := I1.kept (t' := s1.toks) hk
    refine ⟨s1.heap.objs.size + 1, [s1.heap.objs.size + 1, s1.heap.objs.size], _, _, H1, rfl, I2, turn_enumT a (s1.heap.objs.size + 1) s1.heap.objs.size, ⟨⟨.none, he⟩, hit, Nat.succ_ne_self _⟩, fun b hb => ?_, q⟩
    have e' : b = s1.heap.objs.size + 1 ∨ b = s1.heap.objs.size := by simpa using hb
    have hle : s1.heap.objs.size ≤ b := by
      rcases e' with z | z
      · rw [z]; exact Nat.le_add_right _ _
      · rw [z]; exact Nat.le_refl _
    exact I1.fpOk hle (I1.hok.fresh hle)
section
variable {ca : Nat → Addr} {O T : Cs} {X : Cx} {K : PySem.W.Frag} {C : Cn} {pos p apos cpos tpos pos' p2 : Pos} {a b c e tg o i iter elt st : Expr} {ea eb ec eo : CE} {as : CA} {es rest : List Expr} {N : List Str} {sc sc' : Scope} {vm tm vm' tm' : List Bool} {n j np : Nat} {x m f : Str} {φ0 : List Addr} {G0 : Hp}
theorem iteT_ok {x : U} {us : List U} {T0 : Cs} {a : Addr} (r : RpU G0 φ0 (.ref a) x) (e : seqT x = some us) : JOk ca (IteT K a) ⟨us.zipIdx.map fun p => mkT [.d (.int (p.2 : Nat)), p.1], none, T0⟩ φ0 G0 O := by
  intro φ G H' T' f s hw
  obtain ⟨a', vs, ea, h1, h2⟩ := seqT_ok s (f.u r) e
  cases ea
  have h1 : SqT K H' a vs := .inl (.inl h1)
  refine ⟨fun i u hu => ?_, ⟨vs, h1, by simp [h2.length]⟩⟩
  simp only [List.getElem?_map, List.getElem?_zipIdx, Option.map_map, Option.map_eq_some_iff] at hu
  obtain ⟨w, hw', rfl⟩ := hu
  obtain ⟨v', e1, e2⟩ := h2.get hw'
  refine ⟨⟨vs, v', h1, e1⟩, fun x' H2 hy => ?_⟩
  obtain ⟨Tt, x2, rfl, nT, rfl, hy⟩ := hy
  have := hy vs h1
  rw [e1] at this
  cases this
  simp only [Function.comp, Nat.zero_add]
  exact new_tup s nT (.cons (.d (.int _)) (.cons e2 .nil))
theorem i_et {elts : List Expr} {kk : Nat} (g : Cg X N sc vm tm n) (hm : X.mg "enumerate" = none) (ha : PE X a (RE ca C ea)) (hg : sc.names.lookup ("enumerate" : Str) = some .globalImplicit := by rfl) (hs : starEach [a] X.env = [(false, eval a X.env)] := by rfl) :
    PI X (.Tuple elts kk tpos) (.Call (.Name "enumerate" p) [a] [] pos) (RI ca C (.enumT ea)) :=
  (pi_enumT (gl_of g hg) hm (a_cons ha a_nil hs) hs).imp (by
    intro σ H R h
    obtain ⟨φ, G, O, ρ, T, t, h⟩ := ri_one (ea := ea) (f := fun O x T => match seqT x with | some us => .ok ⟨us.zipIdx.map fun p => mkT [.d (.int (p.2 : Nat)), p.1], none, T⟩ T | none => .fail) (fun O ρ T => by rw [denI] <;> rfl) h
    refine ⟨φ, G, O, ρ, T, t, Pc.imp h ?_⟩
    rintro vs H1 ⟨φ1, G1, T1, v, u, rfl, s, r, h⟩
    cases e2 : seqT u with
    | none => rw [e2] at h; exact h.elim
    | some us =>
      rw [e2] at h
      obtain ⟨a, ys, rfl, hy, ry⟩ := seqT_ok s r e2
      exact ⟨a, ys, rfl, .inl (.inl hy), h _ φ1 G1 H1 Fut.refl s (iteT_ok r e2)⟩)
theorem s_lcA (g : Cg X N sc vm tm n) (i : Nat) {y : Str} {py spos : Pos} {l : Bool} {q : Tg} {it : IT} {ct ce : CE} {ifs : List Expr} {scope : Scope} {own : List (Str × Nat)} (sc' : Scope) (vm' tm' : List Bool) (hr : relS scope sc = sc') (hv : visAll N sc' vm' = true) (ht' : tgtBlk N scope sc' tm' = true) (ok : blkC N sc scope own = true) (hsl : subL (slotsT q) (own.map (·.2)) = true)
    (hi : PI X tg iter (RI ca C it))
    (k : ∀ Y : Cx, Y.prog = X.prog → Y.w = X.w → Y.K = X.K → Y.mg = X.mg → Y.base = X.base → Cg Y N sc' vm' tm' n → PG Y tg (RG ca q) ∧ PTs Y ifs (RT ca C ct) ∧ PE Y elt (RE ca C ce))
    (hk : sc.kind = .function := by rfl) (hl : (py.line == pos.line) = true := by rfl) (ha : (scope.names.any fun (n, k) => n == y && (k == .local || k == .cell)) = false := by decide +kernel) (hy : N[i]? = some y := by rfl) (hyl : sc.names.lookup y = some .local := by rfl) (hs : ∀ x, foldedSetIterable iter X.env x = pure x := by intro _; rfl) :
    PS X (.Assign [.Name y py] (.ListComp elt [⟨tg, iter, ifs, 0⟩] scope pos) spos) (RS ca C (.asg (.nm i) (.comp l ce q it ct (own.map (·.2))))) :=
  s_lc g i sc' vm' tm' hr hv ht' ok hsl hi k (fun e => sw_true (g.hsc ▸ hk) (g.hsc ▸ e) hl ha) hy hyl hs
theorem sw_cell {elt : Expr} {gs : List Comprehension} {scope : Scope} {pos py : Pos} {y : Str} {l : Nat} {env : Env} (hy : env.scope.names.lookup y = some .cell) : swapsWithSole [.Name y py] (.ListComp elt gs scope pos) l env = pure false := by
  have ky : env.kindOf y = some .cell := hy
  show swapsWith (.ListComp elt gs scope pos) (some (.Name y py)) l env = pure false
  unfold swapsWith
  have h1 : ((some NameKind.cell : Option NameKind) == some NameKind.local) = false := rfl
  simp only [ky, h1, Bool.and_false, Bool.false_and]
theorem s_asC {q : Tg} {elt : Expr} {gs : List Comprehension} {scope : Scope} {lpos py : Pos} {y : Str} {ea : CE} (g : Cg X N sc vm tm n) (he : PE X (.ListComp elt gs scope lpos) (RE ca C ea)) (hg : PG X (.Name y py) (RG ca q)) (hy : sc.names.lookup y = some .cell := by rfl) : PS X (.Assign [.Name y py] (.ListComp elt gs scope lpos) pos) (RS ca C (.asg q ea)) :=
  ps_as he hg (sw_cell (g.hsc ▸ hy)) rfl rfl
theorem s_augf {c : Nat} (F : Cls X.K (ca c) ∧ NoAttr X.K (ca c) f) (ho : PE X o (RE ca C eo)) (he : PE X e (RE ca C ea)) : PS X (.AugAssign (.Attribute o f pos') .Add e pos) (RS ca C (.augf c eo f ea)) :=
  (ps_fldaug ho he in_add).imp (to_augf F.1 F.2)
theorem rps_strs (Gh : Hp) : ∀ ts : List Str, Rps Gh (ts.map V.str) (ts.map PyData.str)
  | [] => .nil
  | a :: r => .cons (.str a) (rps_strs Gh r)
/-- x in a tuple of texts of the module -/
def rInG (ca : Nat → Addr) (A : Addr) (ds : List Y.D) : R2 := fun x y H Q => y = .ref A ∧ ∃ φ G O T u, Sd ca φ G H (O ++ T) ∧ RpU G φ x u ∧ Pc ca rU φ G O (cmpR .isin O u (.d (.tuple ds)) T) Q
theorem op_inG {A : Addr} {o : Obj} {its : Array Value} {k : Nat} {ts : List Str} (h2 : X.K.lookup A = some o) (h3 : o.cls = .type "tuple") (h4 : o.data = .seq its k) (h5 : its.size ≤ sizeLine) (h6 : Vals (ts.map V.str) its.toList) : OpR X (compareOp .In) (rInG ca A (ts.map .str)) := by
  rintro pins s σ H x y v w Q I rx ry ⟨rfl, φ, G, O, T, u, sd, r1, h⟩
  unfold cmpR at h
  cases e : cmpU O .isin u (.d (.tuple (ts.map .str))) T with
  | none => rw [e] at h; exact h.elim
  | some kk =>
    rw [e] at h
    have q : Q (.bl kk) H := Pc.now h sd (.d (.bl _))
    have e : cmpU.isinU O u (.d (.tuple (ts.map .str))) T = some kk := e
    cases u with
    | d a =>
      have e : (if cmpU.flat a && (ts.map PyData.str).all cmpU.flat then some ((ts.map PyData.str).any fun z => PyData.eqv z a) else none) = some kk := by
        rw [← e]
        cases a <;> rfl
      split at e
      · rename_i hs
        cases e
        simp only [Bool.and_eq_true] at hs
        cases r1 with
        | d r1 =>
          obtain ⟨b1, b2⟩ := flat_any r1 hs.1 (rps_strs G ts) hs.2
          exact op_in_seq pins s σ H _ _ v w Q I rx ry ⟨_, _, rfl, .inr (.inr ⟨o, its, k, h2, h3, h4, h5, h6⟩), flat_ok r1 hs.1, b1, by rw [b2]; exact q⟩
      · cases e
    | ref i =>
      have z : cmpU.isinU O (.ref i) (.d (.tuple (ts.map .str))) T = none := by
        unfold cmpU.isinU
        show (match toD O T 3 (.ref i), some (PyData.tuple (ts.map .str)) with
          | some a, some (.list ds) => if shp a && shp (.list ds) then some (ds.any fun z => PyData.eqv z a) else none
          | _, _ => none : Option Bool) = none
        cases toD O T 3 (.ref i) <;> rfl
      rw [z] at e; cases e
    | tup i =>
      have z : cmpU.isinU O (.tup i) (.d (.tuple (ts.map .str))) T = none := by
        unfold cmpU.isinU
        show (match toD O T 3 (.tup i), some (PyData.tuple (ts.map .str)) with
          | some a, some (.list ds) => if shp a && shp (.list ds) then some (ds.any fun z => PyData.eqv z a) else none
          | _, _ => none : Option Bool) = none
        cases toD O T 3 (.tup i) <;> rfl
      rw [z] at e; cases e
theorem to_inG {A : Addr} {ds : List Y.D} : ∀ σ H Q, RE ca C (.cmp .isin ea (.c (.tuple ds))) σ H Q → tOp (rInG ca A ds) (RE ca C ea) (tC (.ref A)) σ H Q := by
  rintro σ H Q ⟨φ, G, O, ρ, T, t, h⟩
  rw [den] at h
  refine ⟨φ, G, O, ρ, T, t, Pc.imp h.bind ?_⟩
  rintro v H1 ⟨φ1, G1, T1, u, f1, s1, r1, h1⟩
  rw [den, R.bind_ok] at h1
  exact ⟨rfl, φ1, G1, O, T1, u, s1, r1, h1⟩
def KTup (K : PySem.W.Frag) (mg : Str → Option Value) (x : Str) (ts : List Str) : Prop := ∃ (A : Addr) (o : Obj) (its : Array Value) (k : Nat), mg x = some (.ref A) ∧ K.lookup A = some o ∧ o.cls = .type "tuple" ∧ o.data = .seq its k ∧ its.size ≤ sizeLine ∧ Vals (ts.map V.str) its.toList
theorem y_inG (g : Cg X N sc vm tm n) {ts : List Str} (hm : KTup X.K X.mg x ts) (ha : PE X a (RE ca C ea))
    (hg : sc.names.lookup x = some .globalImplicit := by rfl) (hd : (x == ("__debug__" : Str)) = false := by decide) (hmk : behindInMarks .In (.Name x p) = false := by rfl) : PE X (.Compare a [.In] [.Name x p] pos) (RE ca C (.cmp .isin ea (.c (.tuple (ts.map .str))))) := by
  obtain ⟨A, o, its, k, h1, h2, h3, h4, h5, h6⟩ := hm
  exact (pe_cmpR (op_inG (ca := ca) h2 h3 h4 h5 h6) ha (pe_glob (v := .ref A) (gl_of g hg) h1 rfl hd) hmk).imp to_inG
theorem t_inG (g : Cg X N sc vm tm n) {ts : List Str} (hm : KTup X.K X.mg x ts) (ha : PE X a (RE ca C ea))
    (hg : sc.names.lookup x = some .globalImplicit := by rfl) (hd : (x == ("__debug__" : Str)) = false := by decide) (hmk : behindInMarks .In (.Name x p) = false := by rfl) : PT X (.Compare a [.In] [.Name x p] pos) (RT ca C (.cmp .isin ea (.c (.tuple (ts.map .str))))) := by
  obtain ⟨A, o, its, k, h1, h2, h3, h4, h5, h6⟩ := hm
  exact (pt_cmpR (op_inG (ca := ca) h2 h3 h4 h5 h6) ha (pe_glob (v := .ref A) (gl_of g hg) h1 rfl hd) hmk).imp fun σ H Q h => by
    obtain ⟨φ, G, O, ρ, T, t, h⟩ := to_tst σ H Q h
    exact to_inG σ H _ ⟨φ, G, O, ρ, T, t, h⟩
end
theorem RpUs.pick {G : Hp} {φ : List Addr} {vs : List V} {us : List U} (r : RpUs G φ vs us) (ix : List Nat) : RpUs G φ (ix.filterMap fun i => vs[i]?) (ix.filterMap fun i => us[i]?) := by
  induction ix with
  | nil => exact .nil
  | cons i ix ih =>
    cases e : us[i]? with
    | none =>
      have e2 : vs[i]? = none := by
        rw [List.getElem?_eq_none_iff] at e ⊢
        rw [r.length]; exact e
      simp only [List.filterMap_cons, e, e2]
      exact ih
    | some u =>
      obtain ⟨v, e2, rv⟩ := r.get e
      simp only [List.filterMap_cons, e, e2]
      exact .cons rv ih
theorem rels_pick {vs : List V} {us : List Value} (r : Vals vs us) (ix : List Nat) : Vals (ix.filterMap fun i => vs[i]?) (ix.filterMap fun i => us[i]?) := by
  induction ix with
  | nil => exact .nil
  | cons i ix ih =>
    cases e : vs[i]? with
    | none =>
      have e2 : us[i]? = none := by
        rw [List.getElem?_eq_none_iff] at e ⊢
        rw [← r.length]; exact e
      simp only [List.filterMap_cons, e, e2]
      exact ih
    | some u =>
      obtain ⟨v, e2, rv⟩ := r.get e
      simp only [List.filterMap_cons, e, e2]
      exact .cons rv ih
def tStp (K : PySem.W.Frag) (te : TE) (lo : Option Int) (k : Int) : TE := fun σ H Q => te σ H fun x H1 => ∃ a xs, x = .ref a ∧ SqL K H1 a xs ∧ ∀ p, H1 p = none → Q (.ref p) (upd H1 p (.lst (pickS lo k xs)))
theorem pick_len {vs : List V} {lo : Option Int} {k : Int} : (pickS lo k vs).length ≤ vs.length := by
  have := slicePick_size_le (vs.map fun _ => Value.none).toArray lo none (some k)
  unfold slicePick at this
  unfold pickS
  simp at this
  refine Nat.le_trans (Nat.le_of_eq ?_) this
  generalize (sliceRange _ _ _) = ix
  induction ix with
  | nil => rfl
  | cons i ix ih =>
    by_cases h : i < vs.length
    · simp [h, ih]
    · simp [h, ih]
theorem pe_stp {X : Cx} {e : Expr} {te : TE} {lo : Option Expr} {l : Option Int} {k : Int} {kk : Nat} {p1 p3 pos : Pos} (hk : k ≠ 0) (he : PE X e te) (hlo : PO X lo (fun _ H R => R l H)) : PE X (.Subscript e (.Slice lo none (some (.Constant (.int k) kk p1)) p3) pos) (tStp X.K te l k) := by
  refine ⟨fun pins s σ H Q I h => ?_⟩
  refine Subscript_ (thn (he.run pins s σ H _ I h) fun v s1 ⟨x, H1, I1, r1, q1⟩ => ?_)
  obtain ⟨a, xs, ex, hx, q⟩ := q1
  subst ex
  cases r1
  have hst : PO X (some (.Constant (.int k) kk p1)) (tPart (tC (.int k))) := po_some pe_int
  refine wpAny_Slice (thn (hlo.run pins s1 σ H1 (fun o H2 => o = l ∧ H2 = H1) I1 ⟨rfl, rfl⟩) fun vl s2 ⟨l, H2, I2, pl, el, e2⟩ => ?_)
  subst el e2
  refine thn (po_none.run pins s2 σ H2 (fun o H3 => o = none ∧ H3 = H2) I2 ⟨rfl, rfl⟩) fun vu s3 ⟨u, H3, I3, pu, eu, e3⟩ => ?_
  subst eu e3
  refine thn (hst.run pins s3 σ H3 (fun o H4 => o = some k ∧ H4 = H3) I3 ⟨k, rfl, rfl, rfl⟩) fun vs s4 ⟨o, H4, I4, ps, eo, e4⟩ => ?_
  subst eo e4
  have I5 : Inv X pins σ H4 { s4 with heap := s4.heap.push { cls := .type "slice", data := .fields #[vl, vu, vs] } } := I4.kept (t' := s4.toks) fun b ob q => Heap.get?_push_of_some _ q
  obtain ⟨its, r, ht, hz⟩ := I5.list hx
  have hlen := r.length
  show wpAny (model X.prog X.w) X.A (subscriptTail e (.Slice lo none (some (.Constant (.int k) kk p1)) p3) (.ref a) (.ref s4.heap.objs.size)) (EP X pins σ Q) X.xe { s4 with heap := s4.heap.push { cls := .type "slice", data := .fields #[vl, vu, vs] } }
  refine tail_any (ops := [.ref a, .ref s4.heap.objs.size]) ht.isList.typeIs (PySem.slot_list_getitem.lookup) ?_ (by with_unfolding_all rfl)
  refine wpAny_getItem_list_slice ht.isList (Heap.IsSliceOf.new _ vl vu vs) pl pu ps (by simpa using hk) ?_ (by rw [List.size_toArray]; omega)
  refine ⟨.ref _, _, I5.laid (t' := s4.toks) (o := .lst (pickS l k xs)) (fun b ob q => Heap.get?_push_of_some _ q) (Nat.le_refl _) ?_, rfl, q _ (I5.hok.fresh (Nat.le_refl _))⟩
  refine ⟨Nat.le_trans pick_len hz, _, 0, ?_, Heap.get?_push_size _ rfl⟩
  have := rels_pick r (sliceRange (sliceBounds l none (some k) xs.length).1 (sliceBounds l none (some k) xs.length).2.1 (sliceBounds l none (some k) xs.length).2.2)
  have e : its.toArray.size = xs.length := by rw [List.size_toArray]; exact hlen.symm
  rw [e]
  simp only [List.getElem?_toArray]
  exact this
section
variable {ca : Nat → Addr} {X : Cx} {C : Cn} {a : Expr} {ea : CE} {pos p1 p2 p3 : Pos} {l : Bool}
theorem to_stp {K : PySem.W.Frag} {lo : Option Int} {k : Int} : ∀ σ H Q, RE ca C (.bi l (.stp lo k) (.cons ea .nil)) σ H Q → tStp K (RE ca C ea) lo k σ H Q := by
  intro σ H Q h
  obtain ⟨φ, G, O, ρ, T, t, h⟩ := to_op1 (ea := ea) (f := fun O x T => stpB O l lo k T x) (fun O ρ T => by
    rw [den, denA]
    cases den C O ρ ea T with
    | ok x T1 =>
      simp only [Y.R.bind_ok, denA]
      rfl
    | exc => rfl
    | fail => rfl) σ H Q h
  refine ⟨φ, G, O, ρ, T, t, Pc.imp h ?_⟩
  rintro v H1 ⟨φ1, G1, O1, T1, u, sd, r, h⟩
  have h : Pc ca rU φ1 G1 O1 (stpB O1 l lo k T1 u) Q := h
  unfold stpB at h
  cases e2 : seqL O1 T1 u with
  | none => rw [e2] at h; exact h.elim
  | some us =>
    rw [e2] at h
    simp only at h
    by_cases hk : 1 ≤ k
    · rw [if_pos (by simpa using hk)] at h
      obtain ⟨a, ys, rfl, hy, ry⟩ := seqL_ok sd r e2
      refine ⟨a, ys, rfl, .inl hy, fun p np => mkL_ok h sd ?_ np⟩
      unfold pickS
      rw [ry.length]
      exact ry.pick _
    · rw [if_neg (by simpa using hk)] at h; exact h.elim
theorem y_stp0 {k : Int} {kk : Nat} (hk : k ≠ 0) (ha : PE X a (RE ca C ea)) : PE X (.Subscript a (.Slice none none (some (.Constant (.int k) kk p1)) p3) pos) (RE ca C (.bi l (.stp none k) (.cons ea .nil))) :=
  (pe_stp hk ha ⟨fun pins s σ H Q I q => po_none.run pins s σ H Q I q⟩).imp to_stp
theorem y_stp1 {k j : Int} {kk jj : Nat} (hk : k ≠ 0) (ha : PE X a (RE ca C ea)) : PE X (.Subscript a (.Slice (some (.Constant (.int j) jj p2)) none (some (.Constant (.int k) kk p1)) p3) pos) (RE ca C (.bi l (.stp (some j) k) (.cons ea .nil))) :=
  (pe_stp hk ha ⟨fun pins s σ H Q I q => (po_some pe_int).run pins s σ H Q I ⟨j, rfl, q⟩⟩).imp to_stp
end
def iKeysL (td : TE) : TI := fun σ H R => td σ H fun x H1 => ∃ d kvs, x = .ref d ∧ H1 d = some (.dT kvs) ∧ ∀ od, R (Itkt d od kvs) (upd H1 d (.frz od (.dT kvs)))
theorem pi_keysL {X : Cx} {tg e : Expr} {td : TE} (he : PE X e td) : PI X tg e (iKeysL td) := by
  refine ⟨fun pins s σ H R I h => ?_⟩
  refine thn (he.run pins s σ H _ I h) fun u s1 ⟨x, H1, I1, rx, d, kvs, ex, hd, q⟩ => ?_
  subst ex
  obtain rfl : u = Value.ref d := rx
  obtain ⟨od, I2⟩ := I1.lock hd trivial
  have hd2 : upd H1 d (.frz od (.dT kvs)) d = some (.frz od (.dT kvs)) := upd_same
  obtain ⟨hs, hgd, hx, es, ep, hdt, hsz, ent⟩ := I2.frzT hd2
  refine iter_keys hs hgd hx hdt (pi_one (tk := s1.toks) I2 _ (turn_keysT _ hdt) ⟨_, Heap.get?_push_size _ rfl, rfl, ?_⟩ (q od))
  rw [hsz] <;> rfl
section
variable {ca : Nat → Addr} {φ φ0 : List Addr} {G G0 H : Hp} {S : Cs}
/-- something that stands for ever is known from now on -/
theorem Sd.learn (s : Sd ca φ G H S) {q : Addr} {o : HO} (h : H q = some o) (hn : ∀ (i : Nat) (c : Cell), φ[i]? = some q → S[i]? = some c → ¬ live c) : Sd ca φ (upd G q o) H S := by
  refine ⟨s.len, s.nd, s.ex.into h, fun i a c h1 h2 h3 => ?_, s.kn, fun i a c h1 h2 => ?_⟩
  · rw [upd_ne (fun e : a = q => hn i c (by rw [← e]; exact h1) h2 h3)]
    exact s.off i a c h1 h2 h3
  · exact (s.cell i a c h1 h2).mono ⟨fun _ _ h => h, fun b u hb => by
      by_cases e : b = q
      · subst e
        rw [upd_same]
        have := s.ex _ _ hb
        rw [h] at this
        exact this
      · rw [upd_ne e]; exact hb⟩ rfl
theorem Sd.learnF (s : Sd ca φ G H S) {q : Addr} {o : HO} (h : H q = some o) : Fut φ G φ (upd G q o) := ⟨fun _ _ h => h, fun b u hb => by
  by_cases e : b = q
  · subst e
    rw [upd_same]
    have := s.ex _ _ hb
    rw [h] at this
    exact this
  · rw [upd_ne e]; exact hb⟩
theorem rps_key (G : Hp) : ∀ k : Ky, Rps G (k.map kV) (k.map kD)
  | [] => .nil
  | .inl i :: r => .cons (.int i) (rps_key G r)
  | .inr x :: r => .cons (.str x) (rps_key G r)
theorem RpK.get : ∀ {ws : List (List L2.Key × V)} {kvs : List (Ky × U)} {i : Nat} {p : Ky × U}, RpK G φ ws kvs → kvs[i]? = some p → ∃ v, ws[i]? = some (p.1, v)
  | _, _, i, p, .nil, h => by simp at h
  | _, _, 0, p, .cons _ t, h => by simp at h; subst h; exact ⟨_, rfl⟩
  | _, _, i + 1, p, .cons _ t, h => by
    simp at h
    obtain ⟨v, e⟩ := RpK.get t h
    exact ⟨v, by simpa using e⟩
theorem itkt_ok {O : Cs} {d : Addr} {od : Obj} {ws : List (List L2.Key × V)} {kvs : List (Ky × U)} {T0 : Cs} (hd : G0 d = some (.frz od (.dT ws))) (r : RpK G0 φ0 ws kvs) : JOk ca (Itkt d od ws) ⟨kvs.map fun p => .d (keyD p.1), none, T0⟩ φ0 G0 O := by
  intro φ G H' T' f s hw
  have hd' : H' d = some (.frz od (.dT ws)) := s.ex _ _ (f.ex _ _ hd)
  refine ⟨fun i u hu => ?_, ⟨hd', by simp [r.length]⟩⟩
  rw [List.getElem?_map, Option.map_eq_some_iff] at hu
  obtain ⟨p, hp, rfl⟩ := hu
  obtain ⟨v, hv⟩ := r.get hp
  refine ⟨⟨hd', (List.getElem?_eq_some_iff.mp hv).1⟩, fun x' H2 hy => ?_⟩
  obtain ⟨rfl, k, v', q, e1, rfl, hq⟩ := hy
  rw [hv] at e1
  cases e1
  refine ⟨Ex.refl _, upd G q (.tup (p.1.map kV)), s.learnF hq, s.learn hq fun j c h1 h2 hl => ?_, ?_⟩
  · have := s.cell j q c h1 h2
    cases c with
    | lst ds => obtain ⟨_, h, _⟩ := this; rw [hq] at h; cases h
    | lstU ds => obtain ⟨_, h, _⟩ := this; rw [hq] at h; cases h
    | dct ds => obtain ⟨_, h, _⟩ := this; rw [hq] at h; cases h
    | dctU ds => obtain ⟨_, h, _⟩ := this; rw [hq] at h; cases h
    | ins c ds => obtain ⟨_, _, h, _⟩ := this; rw [hq] at h; cases h
    | exn c ds => exact hl
    | dead => exact hl
  · exact .d (.tup upd_same (rps_key _ _))
theorem Sd.lock (s : Sd ca φ G H S) {i : Nat} {a : Addr} {c : Cell} {o : HO} (hi : φ[i]? = some a) (hc : S[i]? = some c) (hl : live c) : Sd ca φ (upd G a o) (upd H a o) (S.set i .dead) := by
  refine (s.write (c' := .dead) hi hc hl trivial).learn upd_same fun j d h1 h2 hd => ?_
  have : j = i := by
    by_cases e : j = i
    · exact e
    · exact absurd rfl (nd_ne s.nd h1 hi e)
  subst this
  rw [List.getElem?_set_self (List.getElem?_eq_some_iff.mp hc).1] at h2
  cases h2
  exact hd
variable {X : Cx} {C : Cn} {e tg : Expr} {ea : CE} {es : List Expr} {pos : Pos} {N : List Str} {sc : Scope} {vm tm : List Bool} {n : Nat}
theorem i_keys (ha : PE X e (RE ca C ea)) : PI X tg e (RI ca C (.keys ea)) := (pi_keysL ha).imp (by
  intro σ H R h
  obtain ⟨φ, G, O, ρ, T, t, h⟩ := h
  rw [denI] at h
  refine ⟨φ, G, O, ρ, T, t, ?_⟩
  cases e1 : den C O ρ ea T with
  | exc => rw [e1] at h; exact h
  | fail => rw [e1] at h; exact h
  | ok x T1 =>
    rw [e1] at h
    intro v φ1 G1 H1 f s r
    simp only [Y.R.bind_ok] at h
    cases x with
    | d => exact h.elim
    | tup => exact h.elim
    | ref i =>
      cases r with
      | ref hi =>
        rename_i a
        simp only at h
        cases e2 : dictOf O T1 (.ref i) with
        | none => rw [e2] at h; exact h.elim
        | some kvs =>
          rw [e2] at h
          simp only at h
          unfold setC at h
          by_cases hb : O.length ≤ i ∧ i < O.length + T1.length
          · rw [if_pos hb] at h
            simp only [Y.R.bind_ok] at h
            have key : ∃ c ws, (O ++ T1)[i]? = some c ∧ live c ∧ H1 a = some (.dT ws) ∧ RpK G1 φ1 ws kvs := by
              unfold dictOf at e2
              simp only at e2
              cases ec : getC O T1 i with
              | none => rw [ec] at e2; cases e2
              | some c =>
                have hc := cell_at s hi ec
                rw [getC_eq] at ec
                rw [getC_eq, ec] at e2
                cases c with
                | dct kv =>
                  cases e2
                  obtain ⟨ws, h1, h2⟩ := hc
                  exact ⟨_, ws, ec, trivial, h1, h2⟩
                | dctU kv =>
                  cases e2
                  obtain ⟨ws, h1, h2⟩ := hc
                  exact ⟨_, ws, ec, trivial, h1, h2⟩
                | lst => cases e2
                | lstU => cases e2
                | ins => cases e2
                | exn => cases e2
                | dead => cases e2
            obtain ⟨c, ws, k1, k2, k3, k4⟩ := key
            refine ⟨_, ws, rfl, k3, fun od => ?_⟩
            have s2 := s.lock (o := .frz od (.dT ws)) hi k1 k2
            rw [set_own _ _ _ _ hb.1] at s2
            have F : Fut φ1 G1 φ1 (upd G1 a (.frz od (.dT ws))) := s.freezeF hi k1 k2
            exact h _ φ1 _ _ (f.trans F) s2 (itkt_ok upd_same (F.k k4))
          · rw [if_neg hb] at h; exact h.elim)
theorem g_lp {kk : Nat} {qs : Tgs} (g : Cg X N sc vm tm n) (h : PGs X es (RGs ca qs)) (hn : (assignEach es X.env).length = lenTgs qs := by rfl) (hst : (assignEach es X.env).findIdx? (·.1) = none := by rfl) : PG X (.Tuple es kk pos) (RG ca (.lp qs)) := by
  refine (pg_lst (n := lenTgs qs) g.calm h hn hst).imp ?_
  rintro v σ H Q ⟨φ, G, O, ρ, T, u, t, r, h⟩
  rw [asgT] at h
  cases e : seqL O T u with
  | none => rw [e] at h; exact h.elim
  | some us =>
    rw [e] at h
    obtain ⟨a, vs, rfl, ha, ra⟩ := seqL_ok t.s r e
    refine ⟨a, vs, rfl, .inl ha, ?_, φ, G, O, ρ, T, us, t, ra, h⟩
    cases e2 : asgTs O T qs us ρ with
    | none => have h' : (match asgTs O T qs us ρ with | some ρ' => ∀ σ', At ca φ G H O T σ' ρ' → SameBut (slotsTs qs) σ σ' → Q σ' H | none => False) := h; rw [e2] at h'; exact h'.elim
    | some ρ' => rw [ra.length]; exact asgTs_len qs us ρ ρ' e2
end
end Y

set_option Elab.async false
set_option linter.all false
set_option maxRecDepth 100000
set_option maxHeartbeats 1000000
namespace Y
open PySem
theorem run_S {G : Pg} {j : Nat} {fd : FD} (h : G.defs j = some fd) (n : Nat) (O : Cs) (us : List U) (T : Cs) : Y.run G (n + 1) O j us T = bodyRun (cn G n) O fd us T := by
  rw [Y.run, h]
theorem bodyRun_eq {C : Cn} {O : Cs} {np ns : Nat} {b : CB} {us : List U} {T : Cs} (h : us.length = np) : bodyRun C O ⟨np, ns, b⟩ us T = match denB C O b (us.map some ++ List.replicate (ns - us.length) none) T with
    | .nx _ T' => .ok (.d .none) T'
    | .rt u T' => .ok u T'
    | .exc c fs _ T' => .exc c fs T'
    | _ => .fail := by
  unfold bodyRun
  rw [if_pos h] <;> rfl
def fin (r : F) : R U := match r with
    | .nx _ T' => .ok (.d .none) T'
    | .rt u T' => .ok u T'
    | .exc c fs _ T' => .exc c fs T'
    | _ => .fail
@[simp] theorem fin_nx (ρ : Rho) (T : Cs) : fin (.nx ρ T) = .ok (.d .none) T := rfl
@[simp] theorem fin_rt (u : U) (T : Cs) : fin (.rt u T) = .ok u T := rfl
@[simp] theorem fin_bk (ρ : Rho) (T : Cs) : fin (.bk ρ T) = .fail := rfl
@[simp] theorem fin_ct (ρ : Rho) (T : Cs) : fin (.ct ρ T) = .fail := rfl
@[simp] theorem fin_fail : fin .fail = .fail := rfl
theorem run_to {G : Pg} {j np ns n : Nat} {b : CB} {O : Cs} {us : List U} {T : Cs} {r : R U} (hG : G.defs j = some ⟨np, ns, b⟩) (hl : us.length = np) (h : fin (denB (cn G n) O b (us.map some ++ List.replicate (ns - us.length) none) T) = r) : Y.run G (n + 1) O j us T = r := by
  rw [run_S hG, bodyRun_eq hl, ← h]
  rfl
section
variable {C : Cn} {O T : Cs} {ρ : Rho} {G : Pg} {n : Nat}
@[simp] theorem cn_call : (cn G n).call = Y.run G n := rfl
@[simp] theorem cn_make : (cn G n).make = Y.run G n := rfl
@[simp] theorem cn_glob : (cn G n).glob = G.glob := rfl
theorem denB_nx {s : CS} {b : CB} {ρ' : Rho} {T' : Cs} (h : denS C O s ρ T = .nx ρ' T') : denB C O (.cons s b) ρ T = denB C O b ρ' T' := by
  rw [denB, h]
theorem denB_rt {s : CS} {b : CB} {u : U} {T' : Cs} (h : denS C O s ρ T = .rt u T') : denB C O (.cons s b) ρ T = .rt u T' := by
  rw [denB, h]
theorem for_ok {g : Tg} {it : IT} {b : CB} {its : Its} {T0 : Cs} (I : Nat → Rho → Cs → Prop) (e : denI C O ρ it T = .ok its T0) (h0 : I 0 ρ T0) (hw : ∀ i ρ T, I i ρ T → sameW O its.t T its.w = true)
    (h : ∀ i u, its.us[i]? = some u → ∀ ρ T, I i ρ T → ∃ ρ1 ρ' T', asgT O T g u ρ = some ρ1 ∧ (denB C O b ρ1 T = .nx ρ' T' ∨ denB C O b ρ1 T = .ct ρ' T') ∧ I (i + 1) ρ' T') : ∃ ρ' T', denS C O (.for_ g it b) ρ T = .nx ρ' T' ∧ I its.us.length ρ' T' := by
  rw [denS, e]
  simp only
  suffices k : ∀ (us : List U) (i : Nat) (ρ : Rho) (T : Cs), its.us.drop i = us → i ≤ its.us.length → I i ρ T → ∃ ρ' T', loopF (fun u ρ T => match asgT O T g u ρ with
        | some ρ' => denB C O b ρ' T
        | none => .fail) (fun T' => sameW O its.t T' its.w) us ρ T = .nx ρ' T' ∧ I its.us.length ρ' T' from k its.us 0 ρ T0 rfl (Nat.zero_le _) h0
  intro us
  induction us with
  | nil =>
    intro i ρ T hd hi hI
    have : its.us.length ≤ i := List.drop_eq_nil_iff.mp hd
    have e : i = its.us.length := by omega
    subst e
    refine ⟨ρ, T, ?_, hI⟩
    rw [loopF, if_pos (hw _ _ _ hI)]
  | cons u us ih =>
    intro i ρ T hd hi hI
    have hlt : i < its.us.length := by
      rcases Nat.lt_or_ge i its.us.length with h | h
      · exact h
      · rw [List.drop_eq_nil_of_le h] at hd; cases hd
    have hu : its.us[i]? = some u := by
      rw [List.drop_eq_getElem_cons hlt] at hd
      rw [List.getElem?_eq_getElem hlt]
      cases hd; rfl
    obtain ⟨ρ1, ρ2, T2, e1, e2, hI2⟩ := h i u hu ρ T hI
    obtain ⟨ρ3, T3, e3, hI3⟩ := ih (i + 1) ρ2 T2 (by rw [List.drop_eq_getElem_cons hlt] at hd; cases hd; rfl) hlt hI2
    refine ⟨ρ3, T3, ?_, hI3⟩
    rw [loopF_c _ _ _ _ _ _ (hw _ _ _ hI)]
    simp only [e1]
    rcases e2 with e2 | e2
    · rw [e2]; exact e3
    · rw [e2]; exact e3
end
section
variable (C : Cn) (O T : Cs) (ρ : Rho)
@[simp] theorem den_v (i : Nat) : den C O ρ (.v i) T = match ρ[i]? with
  | some (some u) => .ok u T
  | _ => .fail := by rw [den] <;> rfl
@[simp] theorem den_c (x : D) : den C O ρ (.c x) T = .ok (.d x) T := by rw [den]
@[simp] theorem den_g (k : Nat) : den C O ρ (.g k) T = match C.glob k with
    | some x => .ok (.d x) T
    | none => .fail := by rw [den] <;> rfl
@[simp] theorem den_bin (l o a b) : den C O ρ (.bin l o a b) T = (den C O ρ a T).bind fun x T => (den C O ρ b T).bind fun y T => binU O l o x y T := by rw [den]
@[simp] theorem den_neg (a) : den C O ρ (.neg a) T = (den C O ρ a T).bind fun x T => match x with
    | .d (.int i) => .ok (.d (.int (-i))) T
    | _ => .fail := by rw [den] <;> rfl
@[simp] theorem den_cmp (o a b) : den C O ρ (.cmp o a b) T = (den C O ρ a T).bind fun x T => (den C O ρ b T).bind fun y T => match cmpU O o x y T with
    | some k => .ok (.d (.bool k)) T
    | none => .fail := by rw [den] <;> rfl
@[simp] theorem den_chain (o o' a b e) : den C O ρ (.chain o o' a b e) T = (den C O ρ a T).bind fun x T => (den C O ρ b T).bind fun y T => brB (cmpU O o x y T) ((den C O ρ e T).bind fun z T => match cmpU O o' y z T with
      | some k => .ok (.d (.bool k)) T
      | none => .fail) (.ok (.d (.bool false)) T) := by
  rw [den] <;> rfl
@[simp] theorem den_and (a b) : den C O ρ (.and a b) T = (den C O ρ a T).bind fun x T => brB (asB x) (den C O ρ b T) (.ok (.d (.bool false)) T) := by rw [den]
@[simp] theorem den_or (a b) : den C O ρ (.or a b) T = (den C O ρ a T).bind fun x T => brB (asB x) (.ok (.d (.bool true)) T) (den C O ρ b T) := by rw [den]
@[simp] theorem den_not (a) : den C O ρ (.not a) T = (den C O ρ a T).bind fun x T => match asB x with
    | some b => .ok (.d (.bool (!b))) T
    | none => .fail := by rw [den] <;> rfl
@[simp] theorem den_ite (t a b) : den C O ρ (.ite t a b) T = (den C O ρ t T).bind fun x T => brB (asB x) (den C O ρ a T) (den C O ρ b T) := by rw [den]
@[simp] theorem den_tup (as) : den C O ρ (.tup as) T = (denA C O ρ as T).bind fun us T => if sizeOk us.length then .ok (mkT us) T else .fail := by rw [den]
@[simp] theorem den_lst (l as) : den C O ρ (.lst l as) T = (denA C O ρ as T).bind fun us T => if sizeOk us.length then mkL O l us T else .fail := by rw [den]
@[simp] theorem den_ix (a b) : den C O ρ (.ix a b) T = (den C O ρ a T).bind fun x T => (den C O ρ b T).bind fun y T => R.ofO T (ixU O x y T) := by rw [den]
@[simp] theorem den_slc (l a lo hi) : den C O ρ (.slc l a lo hi) T = (den C O ρ a T).bind fun x T => (if isSkip lo then .ok none T else (den C O ρ lo T).bind fun l T => partU l T).bind fun l' T =>
      (if isSkip hi then .ok none T else (den C O ρ hi T).bind fun h T => partU h T).bind fun h T => slcU O l x l' h T := by rw [den]
@[simp] theorem den_call (l f as ds) : den C O ρ (.call l f as ds) T = (denA C O ρ as T).bind fun us T => if l then C.call O f (us ++ ds.map .d) T else callP C O f (us ++ ds.map .d) T := by rw [den]
@[simp] theorem den_bi (l b as) : den C O ρ (.bi l b as) T = (denA C O ρ as T).bind fun us T => biU O l b us T := by rw [den]
@[simp] theorem den_mt (l m o as) : den C O ρ (.mt l m o as) T = (den C O ρ o T).bind fun x T => if tyU O T x = some (mtTy m) then (denA C O ρ as T).bind fun us T => mtU O l m x us T else .fail := by rw [den]
@[simp] theorem den_mcall (c f m o as) : den C O ρ (.mcall c f m o as) T = (den C O ρ o T).bind fun x T => if clsOf O T x = some c ∧ (fldU O x m T).isNone = true then (denA C O ρ as T).bind fun us T => C.call O f (x :: us) T else .fail := by rw [den]
@[simp] theorem den_mk (c f as) : den C O ρ (.mk c f as) T = (denA C O ρ as T).bind fun us T => (C.make O f (.ref (O.length + T.length) :: us) (T ++ [.ins c []])).bind fun v T' => if isNone v then .ok (.ref (O.length + T.length)) T' else .fail := by rw [den]
@[simp] theorem den_fld (c o f) : den C O ρ (.fld c o f) T = (den C O ρ o T).bind fun x T => if clsOf O T x = some c then R.ofO T (fldU O x f T) else .fail := by rw [den]
@[simp] theorem den_dict0 : den C O ρ .dict0 T = .ok (.ref (O.length + T.length)) (T ++ [.dct []]) := by rw [den]
@[simp] theorem den_frz (a) : den C O ρ (.frz a) T = (den C O ρ a T).bind fun x T => frzU O x T := by rw [den]
@[simp] theorem denA_nil : denA C O ρ .nil T = .ok [] T := by rw [denA]
@[simp] theorem denA_cons (a r) : denA C O ρ (.cons a r) T = (den C O ρ a T).bind fun u T => (denA C O ρ r T).bind fun us T => .ok (u :: us) T := by rw [denA]
@[simp] theorem denI_lst (a) : denI C O ρ (.lst a) T = (den C O ρ a T).bind fun x T => match seqL O T x with
    | some us => .ok ⟨us, watch x, T⟩ T
    | none => .fail := by rw [denI] <;> rfl
@[simp] theorem denI_tup (a) : denI C O ρ (.tup a) T = (den C O ρ a T).bind fun x T => match seqT x with
    | some us => .ok ⟨us, none, T⟩ T
    | none => .fail := by rw [denI] <;> rfl
@[simp] theorem denI_rng1 (a) : denI C O ρ (.rng1 a) T = (den C O ρ a T).bind fun x T => match x with
    | .d (.int j) => if rngOk 0 j then .ok ⟨rngU 0 j.toNat 1, none, T⟩ T else .fail
    | _ => .fail := by rw [denI] <;> rfl
@[simp] theorem denI_rng2 (a b) : denI C O ρ (.rng2 a b) T = (den C O ρ a T).bind fun x T => (den C O ρ b T).bind fun y T => match x, y with
    | .d (.int i), .d (.int j) => if rngOk i j then .ok ⟨rngU i (j - i).toNat 1, none, T⟩ T else .fail
    | _, _ => .fail := by rw [denI] <;> rfl
@[simp] theorem denI_enumL (a) : denI C O ρ (.enumL a) T = (den C O ρ a T).bind fun x T => match seqL O T x with
    | some us => .ok ⟨us.zipIdx.map fun p => mkT [.d (.int (p.2 : Nat)), p.1], watch x, T⟩ T
    | none => .fail := by rw [denI] <;> rfl
@[simp] theorem denI_enumT (a) : denI C O ρ (.enumT a) T = (den C O ρ a T).bind fun x T => match seqT x with
    | some us => .ok ⟨us.zipIdx.map fun p => mkT [.d (.int (p.2 : Nat)), p.1], none, T⟩ T
    | none => .fail := by rw [denI] <;> rfl
@[simp] theorem denI_revL (a) : denI C O ρ (.revL a) T = (den C O ρ a T).bind fun x T => match seqL O T x with
    | some us => .ok ⟨us.reverse, watch x, T⟩ T
    | none => .fail := by rw [denI] <;> rfl
@[simp] theorem denI_str (a) : denI C O ρ (.str a) T = (den C O ρ a T).bind fun x T => match x with
    | .d (.str s) => .ok ⟨s.cps.toList.map fun c => .d (.str ⟨#[c]⟩), none, T⟩ T
    | _ => .fail := by rw [denI] <;> rfl
theorem denS_asg (g e) : denS C O (.asg g e) ρ T = F.of ρ (den C O ρ e T) fun u T => match asgT O T g u ρ with
    | some ρ' => .nx ρ' T
    | none => .fail := by rw [denS] <;> rfl
@[simp] theorem denS_ex (e) : denS C O (.ex e) ρ T = F.of ρ (den C O ρ e T) fun _ T => .nx ρ T := by rw [denS]
@[simp] theorem denS_ret (e) : denS C O (.ret e) ρ T = F.of ρ (den C O ρ e T) fun u T => .rt u T := by rw [denS]
@[simp] theorem denS_retN : denS C O .retN ρ T = .rt (.d .none) T := by rw [denS]
@[simp] theorem denS_brk : denS C O .brk ρ T = .bk ρ T := by rw [denS]
@[simp] theorem denS_cnt : denS C O .cnt ρ T = .ct ρ T := by rw [denS]
@[simp] theorem denS_pass : denS C O .pass ρ T = .nx ρ T := by rw [denS]
theorem denS_ite (t a b) : denS C O (.ite t a b) ρ T = F.of ρ (den C O ρ t T) fun x T => match asB x with
    | some true => denB C O a ρ T
    | some false => denB C O b ρ T
    | none => .fail := by rw [denS] <;> rfl
@[simp] theorem denS_seti (o i e) : denS C O (.seti o i e) ρ T = F.of ρ (den C O ρ e T) fun v T => F.of ρ (den C O ρ o T) fun x T => F.of ρ (den C O ρ i T) fun y T => F.of ρ (setiU O x y v T) fun _ T => .nx ρ T := by rw [denS]
@[simp] theorem denS_setf (c o f e) : denS C O (.setf c o f e) ρ T = F.of ρ (den C O ρ e T) fun v T => F.of ρ (den C O ρ o T) fun x T => if clsOf O T x = some c then F.of ρ (setfU O x f v T) fun _ T => .nx ρ T else .fail := by rw [denS]
theorem denB_nil : denB C O .nil ρ T = .nx ρ T := by rw [denB]
theorem denB_cons (s b) : denB C O (.cons s b) ρ T = match denS C O s ρ T with
    | .nx ρ' T' => denB C O b ρ' T'
    | r => r := by
  rw [denB] <;> cases denS C O s ρ T <;> rfl
@[simp] theorem asgT_nm (i u) : asgT O T (.nm i) u ρ = some (ρ.set i (some u)) := by rw [asgT]
@[simp] theorem asgT_tp (ts u) : asgT O T (.tp ts) u ρ = match seqT u with
  | some us => asgTs O T ts us ρ
  | none => none := by rw [asgT] <;> rfl
@[simp] theorem asgTs_nil : asgTs O T .nil [] ρ = some ρ := by rw [asgTs]
@[simp] theorem asgTs_cons (t ts u us) : asgTs O T (.cons t ts) (u :: us) ρ = match asgT O T t u ρ with
    | some ρ' => asgTs O T ts us ρ'
    | none => none := by rw [asgTs] <;> rfl
@[simp] theorem asB_bool (b : Bool) : asB (.d (.bool b)) = some b := rfl
@[simp] theorem isSkip_skip : isSkip .skip = true := rfl
@[simp] theorem isSkip_v (i) : isSkip (.v i) = false := rfl
@[simp] theorem isSkip_c (i) : isSkip (.c i) = false := rfl
@[simp] theorem isSkip_bin (l o a b) : isSkip (.bin l o a b) = false := rfl
@[simp] theorem isSkip_bi (l o a) : isSkip (.bi l o a) = false := rfl
@[simp] theorem isSkip_g (i) : isSkip (.g i) = false := rfl
@[simp] theorem partU_int (i : Int) : partU (.d (.int i)) T = .ok (some i) T := rfl
@[simp] theorem seqL_d (ds : List D) : seqL O T (.d (.list ds)) = some (ds.map .d) := rfl
@[simp] theorem seqT_d (ds : List D) : seqT (.d (.tuple ds)) = some (ds.map .d) := rfl
@[simp] theorem seqT_t (us : List U) : seqT (.tup us) = some us := rfl
@[simp] theorem seqL_int (i : Int) : seqL O T (.d (.int i)) = none := rfl
@[simp] theorem seqL_tup (i) : seqL O T (.d (.tuple i)) = none := rfl
@[simp] theorem seqL_tupU (i) : seqL O T (.tup i) = none := rfl
@[simp] theorem seqL_str (i) : seqL O T (.d (.str i)) = none := rfl
@[simp] theorem seqL_ref (i) : seqL O T (.ref i) = match getC O T i with
    | some (.lst ds) => some (ds.map .d)
    | some (.lstU us) => some us
    | _ => none := rfl
@[simp] theorem seqA_L (ds : List D) : seqA O T (.d (.list ds)) = some (ds.map .d) := rfl
@[simp] theorem seqA_T (ds : List D) : seqA O T (.d (.tuple ds)) = some (ds.map .d) := rfl
@[simp] theorem watch_d (x : D) : watch (.d x) = none := rfl
@[simp] theorem sameW_none (T' : Cs) : sameW O T T' none = true := rfl
@[simp] theorem allD_nil : allD [] = some [] := rfl
@[simp] theorem allD_cons (x : D) (r : List U) : allD (.d x :: r) = (allD r).map (x :: ·) := rfl
@[simp] theorem mkL_map (ds : List D) : mkL O false (ds.map .d) T = .ok (.d (.list ds)) T := by unfold mkL; simp
@[simp] theorem mkL_f (us : List U) : mkL O false us T = match allD us with
    | some ds => .ok (.d (.list ds)) T
    | none => .fail := rfl
@[simp] theorem mkL_t (us : List U) : mkL O true us T = .ok (.ref (O.length + T.length)) (T ++ [cellOf us]) := rfl
@[simp] theorem cellOf_map (ds : List D) : cellOf (ds.map .d) = .lst ds := by unfold cellOf; simp
@[simp] theorem cellOf_nil : cellOf [] = .lst [] := rfl
@[simp] theorem mkT_map (ds : List D) : mkT (ds.map .d) = .d (.tuple ds) := by unfold mkT; simp
@[simp] theorem allD_ref (i : Nat) (r : List U) : allD (.ref i :: r) = none := rfl
@[simp] theorem allD_tup (i : List U) (r : List U) : allD (.tup i :: r) = none := rfl
theorem mkT_eq (us : List U) : mkT us = match allD us with
  | some ds => .d (.tuple ds)
  | none => .tup us := rfl
@[simp] theorem mkT_4 (a b c d : D) : mkT [.d a, .d b, .d c, .d d] = .d (.tuple [a, b, c, d]) := rfl
@[simp] theorem mkT_5 (a b c d e : D) : mkT [.d a, .d b, .d c, .d d, .d e] = .d (.tuple [a, b, c, d, e]) := rfl
@[simp] theorem mkT_6 (a b c d e f : D) : mkT [.d a, .d b, .d c, .d d, .d e, .d f] = .d (.tuple [a, b, c, d, e, f]) := rfl
@[simp] theorem mkT_7 (a b c d e f g : D) : mkT [.d a, .d b, .d c, .d d, .d e, .d f, .d g] = .d (.tuple [a, b, c, d, e, f, g]) := rfl
@[simp] theorem mkT_1 (a : D) : mkT [.d a] = .d (.tuple [a]) := rfl
@[simp] theorem mkT_2 (a b : D) : mkT [.d a, .d b] = .d (.tuple [a, b]) := rfl
@[simp] theorem mkT_3 (a b c : D) : mkT [.d a, .d b, .d c] = .d (.tuple [a, b, c]) := rfl
@[simp] theorem mkT_0 : mkT [] = .d (.tuple []) := rfl
@[simp] theorem binU_int (l o) (i j : Int) : binU O l o (.d (.int i)) (.d (.int j)) T = match binI o i j with
    | some k => .ok (.d (.int k)) T
    | none => .fail := by cases o <;> rfl
@[simp] theorem binI_add (i j : Int) : binI .add i j = some (i + j) := rfl
@[simp] theorem binI_sub (i j : Int) : binI .sub i j = some (i - j) := rfl
@[simp] theorem binI_band (i j : Int) : binI .band i j = some (Builtin.bitAnd i j) := rfl
@[simp] theorem binI_bor (i j : Int) : binI .bor i j = some (Builtin.bitOr i j) := rfl
@[simp] theorem binI_bxor (i j : Int) : binI .bxor i j = some (Builtin.bitXor i j) := rfl
@[simp] theorem binI_mul (i j : Int) : binI .mul i j = if mulOk i j then some (i * j) else none := rfl
@[simp] theorem binI_fdiv (i j : Int) : binI .fdiv i j = if 0 < j ∧ j < 1000000000000000000000000000000000000000000000000000000000000 then some (i / j) else none := rfl
@[simp] theorem binI_mod (i j : Int) : binI .mod i j = if 0 < j then some (i % j) else none := rfl
@[simp] theorem binI_shr (i j : Int) : binI .shr i j = if 0 ≤ j then some (i / 2 ^ j.toNat) else none := rfl
@[simp] theorem binI_shl (i j : Int) : binI .shl i j = if 0 ≤ j ∧ j ≤ 1000 ∧ -18446744073709551616 < i ∧ i < 18446744073709551616 then some (i * 2 ^ j.toNat) else none := rfl
@[simp] theorem binI_pow (i j : Int) : binI .pow i j = if 0 ≤ j ∧ j ≤ 1000 ∧ -18446744073709551616 < i ∧ i < 18446744073709551616 then some (i ^ j.toNat) else none := rfl
@[simp] theorem binU_cat (l) (a b : List D) : binU O l .add (.d (.list a)) (.d (.list b)) T = if sizeOk (a.length + b.length) then mkL O l ((a ++ b).map .d) T else .fail := by
  unfold binU
  simp
@[simp] theorem binU_catT (l) (a b : List D) : binU O l .add (.d (.tuple a)) (.d (.tuple b)) T = if sizeOk (a.length + b.length) then .ok (.d (.tuple (a ++ b))) T else .fail := by
  unfold binU
  simp [← List.map_append]
@[simp] theorem binU_str (l) (a b : Str) : binU O l .add (.d (.str a)) (.d (.str b)) T = if sizeOk (a.length + b.length) then .ok (.d (.str (a ++ b))) T else .fail := rfl
@[simp] theorem isNone_none : isNone (.d .none) = true := rfl
@[simp] theorem isNone_int (i) : isNone (.d (.int i)) = false := rfl
@[simp] theorem isNone_str (i) : isNone (.d (.str i)) = false := rfl
@[simp] theorem isNone_list (i) : isNone (.d (.list i)) = false := rfl
@[simp] theorem isNone_tuple (i) : isNone (.d (.tuple i)) = false := rfl
@[simp] theorem isNone_tup (i) : isNone (.tup i) = false := rfl
@[simp] theorem isNone_ref (i) : isNone (.ref i) = false := rfl
@[simp] theorem cmp_isN (x : U) : cmpU O .is x (.d .none) T = some (isNone x) := rfl
@[simp] theorem cmp_notN (x : U) : cmpU O .isnot x (.d .none) T = some (!isNone x) := rfl
@[simp] theorem cmp_lt (i j : Int) : cmpU O .lt (.d (.int i)) (.d (.int j)) T = some (decide (i < j)) := rfl
@[simp] theorem cmp_le (i j : Int) : cmpU O .le (.d (.int i)) (.d (.int j)) T = some (decide (i ≤ j)) := rfl
@[simp] theorem cmp_gt (i j : Int) : cmpU O .gt (.d (.int i)) (.d (.int j)) T = some (decide (j < i)) := rfl
@[simp] theorem cmp_ge (i j : Int) : cmpU O .ge (.d (.int i)) (.d (.int j)) T = some (decide (j ≤ i)) := rfl
@[simp] theorem cmp_eqI (i j : Int) : cmpU O .eq (.d (.int i)) (.d (.int j)) T = some (decide (i = j)) := by
  have h : ∀ k : Int, shp (.int k) = true := fun k => rfl
  show (if shp (.int i) && shp (.int j) then some (PyData.eqv (.int i) (.int j)) else none) = _
  rw [h, h]
  rfl
@[simp] theorem cmp_neI (i j : Int) : cmpU O .ne (.d (.int i)) (.d (.int j)) T = some (!decide (i = j)) := by
  have h : ∀ k : Int, shp (.int k) = true := fun k => rfl
  show (if shp (.int i) && shp (.int j) then some (!PyData.eqv (.int i) (.int j)) else none) = _
  rw [h, h]
  rfl
@[simp] theorem sizeOk_iff (k : Nat) : sizeOk k = decide (k ≤ 1000000) := rfl
@[simp] theorem mtTy_append : mtTy .append = .list := rfl
@[simp] theorem mtTy_pop : mtTy .pop = .list := rfl
@[simp] theorem tyU_int (i) : tyU O T (.d (.int i)) = some .int := rfl
@[simp] theorem tyU_bool (i) : tyU O T (.d (.bool i)) = some .bool := rfl
@[simp] theorem tyU_none : tyU O T (.d .none) = some .non := rfl
@[simp] theorem tyU_str (i) : tyU O T (.d (.str i)) = some .str := rfl
@[simp] theorem tyU_list (i) : tyU O T (.d (.list i)) = some .list := rfl
@[simp] theorem tyU_tuple (i) : tyU O T (.d (.tuple i)) = some .tuple := rfl
@[simp] theorem tyU_tup (i) : tyU O T (.tup i) = some .tuple := rfl
@[simp] theorem isB_eq (t : Ty) (x : U) : isB O T t x = match tyU O T x with
  | some a => .ok (.d (.bool (decide (a = t) || (decide (a = .bool) && decide (t = .int))))) T
  | none => .fail := rfl
@[simp] theorem biU_len (l us) : biU O l .len us T = one us (lenB O T) := rfl
@[simp] theorem biU_list (l us) : biU O l .list us T = one us (listB O l T) := rfl
@[simp] theorem biU_tuple (l us) : biU O l .tuple us T = one us (tupleB O T) := rfl
@[simp] theorem biU_int (l us) : biU O l .int us T = one us (intB T) := rfl
@[simp] theorem biU_abs (l us) : biU O l .abs us T = one us (absB T) := rfl
@[simp] theorem biU_sum (l us) : biU O l .sum us T = one us (sumB O T) := rfl
@[simp] theorem biU_all (l us) : biU O l .all us T = one us (allB O T) := rfl
@[simp] theorem biU_any (l us) : biU O l .any us T = one us (anyB O T) := rfl
@[simp] theorem biU_str (l us) : biU O l .str us T = one us (strB T) := rfl
@[simp] theorem biU_isint (l us) : biU O l .isint us T = one us (isB O T .int) := rfl
@[simp] theorem biU_isbool (l us) : biU O l .isbool us T = one us (isB O T .bool) := rfl
@[simp] theorem biU_isstr (l us) : biU O l .isstr us T = one us (isB O T .str) := rfl
@[simp] theorem biU_islist (l us) : biU O l .islist us T = one us (isB O T .list) := rfl
@[simp] theorem biU_istuple (l us) : biU O l .istuple us T = one us (isB O T .tuple) := rfl
@[simp] theorem biU_isdict (l us) : biU O l .isdict us T = one us (isB O T .dict) := rfl
@[simp] theorem lenB_L (ds : List D) : lenB O T (.d (.list ds)) = .ok (.d (.int ds.length)) T := by
  show R.ok (U.d (.int (ds.map U.d).length)) T = _
  rw [List.length_map]
@[simp] theorem lenB_T (ds : List D) : lenB O T (.d (.tuple ds)) = .ok (.d (.int ds.length)) T := by
  show R.ok (U.d (.int (ds.map U.d).length)) T = _
  rw [List.length_map]
@[simp] theorem lenB_S (s : Str) : lenB O T (.d (.str s)) = if sizeOk s.length then .ok (.d (.int s.length)) T else .fail := rfl
@[simp] theorem listB_L (l) (ds : List D) : listB O l T (.d (.list ds)) = mkL O l (ds.map .d) T := rfl
@[simp] theorem listB_T (l) (ds : List D) : listB O l T (.d (.tuple ds)) = mkL O l (ds.map .d) T := rfl
@[simp] theorem tupleB_L (ds : List D) : tupleB O T (.d (.list ds)) = .ok (.d (.tuple ds)) T := by
  show R.ok (mkT (ds.map U.d)) T = _
  rw [mkT_map]
@[simp] theorem tupleB_T (ds : List D) : tupleB O T (.d (.tuple ds)) = .ok (.d (.tuple ds)) T := rfl
@[simp] theorem ixU_L (ds : List D) (i : Int) : ixU O (.d (.list ds)) (.d (.int i)) T = (L2.atI ds i).map .d := rfl
@[simp] theorem ixU_T (ds : List D) (i : Int) : ixU O (.d (.tuple ds)) (.d (.int i)) T = (L2.atI ds i).map .d := rfl
@[simp] theorem allD_app : ∀ (a b : List U), allD (a ++ b) = (allD a).bind fun x => (allD b).map (x ++ ·)
  | [], b => by cases h : allD b <;> simp [allD, h]
  | .d x :: r, b => by
    rw [List.cons_append, allD, allD, allD_app r b]
    cases allD r <;> cases allD b <;> simp
  | .ref _ :: r, b => rfl
  | .tup _ :: r, b => rfl
@[simp] theorem allD_comp {α : Type} (f : α → D) (xs : List α) : allD (xs.map (U.d ∘ f)) = some (xs.map f) := allD_map' f xs
@[simp] theorem mkT_comp {α : Type} (f : α → D) (xs : List α) : mkT (xs.map (U.d ∘ f)) = .d (.tuple (xs.map f)) := by unfold mkT; simp
@[simp] theorem cellOf_comp {α : Type} (f : α → D) (xs : List α) : cellOf (xs.map (U.d ∘ f)) = .lst (xs.map f) := by unfold cellOf; simp
end
section
variable {C : Cn} {O T : Cs}
/-- a pure call that gives a tree -/
theorem callP_d {f us x T'} (h : C.call (O ++ T) f us [] = .ok (.d x) T') : callP C O f us T = .ok (.d x) T := by
  unfold callP
  rw [h]
theorem callP_r {G : Pg} {n f : Nat} {us : List U} {x : D} {T' : Cs} (O T : Cs) (h : Y.run G n (O ++ T) f us [] = .ok (.d x) T') : callP (cn G n) O f us T = .ok (.d x) T := callP_d (C := cn G n) h
/-- .. a list of its own -/
theorem callP_l {f us i ds T'} (h : C.call (O ++ T) f us [] = .ok (.ref i) T') (hi : O.length + T.length ≤ i) (hc : getC (O ++ T) T' i = some (.lst ds)) : callP C O f us T = .ok (.d (.list ds)) T := by
  unfold callP
  rw [h]
  simp only [if_pos hi, hc]
end
end Y

set_option Elab.async false
set_option linter.all false
set_option maxRecDepth 100000
set_option maxHeartbeats 1000000
namespace Y
open PySem
abbrev PS' := Rho → Cs → Prop
def Wp (r : F) (nx bk ct : Rho → Cs → Prop) (rt : U → Cs → Prop) : Prop := match r with
  | .nx ρ T => nx ρ T
  | .rt u T => rt u T
  | .bk ρ T => bk ρ T
  | .ct ρ T => ct ρ T
  | _ => False
def brF (o : Option Bool) (a b : F) : F := match o with
  | some true => a
  | some false => b
  | none => .fail
@[simp] theorem brF_t (a b : F) : brF (some true) a b = a := rfl
@[simp] theorem brF_f (a b : F) : brF (some false) a b = b := rfl
@[simp] theorem brF_d (p : Prop) [Decidable p] (a b : F) : brF (some (decide p)) a b = if p then a else b := by
  by_cases h : p <;> simp [h]
@[simp] theorem brF_nd (p : Bool) (a b : F) : brF (some (!p)) a b = brF (some p) b a := by cases p <;> rfl
@[simp] theorem brF_b (p : Bool) (a b : F) : brF (some p) a b = if p = true then a else b := by cases p <;> rfl
def Kc (C : Cn) (O : Cs) (b : CB) (nx bk ct : Rho → Cs → Prop) (rt : U → Cs → Prop) (ρ : Rho) (T : Cs) : Prop := Wp (denB C O b ρ T) nx bk ct rt
section
variable {C : Cn} {O T : Cs} {ρ : Rho} {G : Pg} {n : Nat} {nx bk ct : Rho → Cs → Prop} {rt : U → Cs → Prop}
@[simp] theorem Kc_eq (b : CB) : Kc C O b nx bk ct rt ρ T = Wp (denB C O b ρ T) nx bk ct rt := rfl
@[simp] theorem wp_nx : Wp (.nx ρ T) nx bk ct rt = nx ρ T := rfl
@[simp] theorem wp_rt (u : U) : Wp (.rt u T) nx bk ct rt = rt u T := rfl
@[simp] theorem wp_bk : Wp (.bk ρ T) nx bk ct rt = bk ρ T := rfl
@[simp] theorem wp_ct : Wp (.ct ρ T) nx bk ct rt = ct ρ T := rfl
@[simp] theorem wp_if (p : Prop) [Decidable p] (a b : F) : Wp (if p then a else b) nx bk ct rt = ((p → Wp a nx bk ct rt) ∧ (¬ p → Wp b nx bk ct rt)) := by
  by_cases h : p <;> simp [h]
@[simp] theorem wp_nil : Wp (denB C O .nil ρ T) nx bk ct rt = nx ρ T := by rw [denB] <;> rfl
@[simp] theorem wp_cons (s : CS) (b : CB) : Wp (denB C O (.cons s b) ρ T) nx bk ct rt = Wp (denS C O s ρ T) (Kc C O b nx bk ct rt) bk ct rt := by
  rw [denB]
  cases denS C O s ρ T <;> rfl
@[simp] theorem wpS_asg (g e) : denS C O (.asg g e) ρ T = F.of ρ (den C O ρ e T) fun u T => match asgT O T g u ρ with
    | some ρ' => .nx ρ' T
    | none => .fail := by rw [denS] <;> rfl
@[simp] theorem wpS_ite (t a b) : denS C O (.ite t a b) ρ T = F.of ρ (den C O ρ t T) fun x T => brF (asB x) (denB C O a ρ T) (denB C O b ρ T) := by
  rw [denS]
  congr 1
@[simp] theorem brR_F (p : Prop) [Decidable p] (a b : R U) (k : U → Cs → F) : F.of ρ (if p then a else b) k = if p then F.of ρ a k else F.of ρ b k := by
  by_cases h : p <;> simp [h]
@[simp] theorem bind_if {α β : Type} (p : Prop) [Decidable p] (a b : R α) (k : α → Cs → R β) : (if p then a else b).bind k = if p then a.bind k else b.bind k := by
  by_cases h : p <;> simp [h]
/-- a for with an invariant -/
theorem wp_for {g : Tg} {it : IT} {b : CB} (its : Its) (T0 : Cs) (I : Nat → Rho → Cs → Prop) (e : denI C O ρ it T = .ok its T0) (h0 : I 0 ρ T0) (hw : ∀ i ρ T, I i ρ T → sameW O its.t T its.w = true)
    (h : ∀ i u, its.us[i]? = some u → ∀ ρ T, I i ρ T → ∃ ρ1, asgT O T g u ρ = some ρ1 ∧ Wp (denB C O b ρ1 T) (I (i + 1)) nx (I (i + 1)) rt) (hx : ∀ ρ T, I its.us.length ρ T → nx ρ T) : Wp (denS C O (.for_ g it b) ρ T) nx bk ct rt := by
  rw [denS, e]
  simp only
  suffices k : ∀ (us : List U) (i : Nat) (ρ : Rho) (T : Cs), its.us.drop i = us → i ≤ its.us.length → I i ρ T → Wp (loopF (fun u ρ T => match asgT O T g u ρ with
        | some ρ' => denB C O b ρ' T
        | none => .fail) (fun T' => sameW O its.t T' its.w) us ρ T) nx bk ct rt from k its.us 0 ρ T0 rfl (Nat.zero_le _) h0
  intro us
  induction us with
  | nil =>
    intro i ρ T hd hi hI
    have : its.us.length ≤ i := List.drop_eq_nil_iff.mp hd
    have e : i = its.us.length := by omega
    subst e
    rw [loopF, if_pos (hw _ _ _ hI)]
    exact hx _ _ hI
  | cons u us ih =>
    intro i ρ T hd hi hI
    have hlt : i < its.us.length := by
      rcases Nat.lt_or_ge i its.us.length with h | h
      · exact h
      · rw [List.drop_eq_nil_of_le h] at hd; cases hd
    have hu : its.us[i]? = some u := by
      rw [List.drop_eq_getElem_cons hlt] at hd
      rw [List.getElem?_eq_getElem hlt]
      cases hd; rfl
    have hd' : its.us.drop (i + 1) = us := by rw [List.drop_eq_getElem_cons hlt] at hd; cases hd; rfl
    obtain ⟨ρ1, e1, e2⟩ := h i u hu ρ T hI
    rw [loopF_c _ _ _ _ _ _ (hw _ _ _ hI)]
    simp only [e1]
    cases e3 : denB C O b ρ1 T with
    | nx ρ2 T2 => rw [e3] at e2; exact ih (i + 1) ρ2 T2 hd' hlt e2
    | ct ρ2 T2 => rw [e3] at e2; exact ih (i + 1) ρ2 T2 hd' hlt e2
    | bk ρ2 T2 => rw [e3] at e2; exact e2
    | rt u T2 => rw [e3] at e2; exact e2
    | exc => rw [e3] at e2; exact e2
    | fail => rw [e3] at e2; exact e2
/-- a while with an invariant: m goes down -/
theorem wp_wh {t : CE} {b : CB} {k : Nat} (I : Nat → Rho → Cs → Prop) (h0 : ∃ m, m < k ∧ I m ρ T) (h : ∀ m ρ T, I m ρ T → ∃ c T1, den C O ρ t T = .ok (.d (.bool c)) T1 ∧ if c = true then Wp (denB C O b ρ T1) (fun ρ T => ∃ m', m' < m ∧ I m' ρ T) nx (fun ρ T => ∃ m', m' < m ∧ I m' ρ T) rt else nx ρ T1) : Wp (denS C O (.wh k t b) ρ T) nx bk ct rt := by
  rw [denS]
  suffices q : ∀ (k : Nat) (m : Nat) (ρ : Rho) (T : Cs), m < k → I m ρ T → Wp (loopW (fun ρ T => den C O ρ t T) (fun ρ T => denB C O b ρ T) k ρ T) nx bk ct rt by
    obtain ⟨m, hm, hI⟩ := h0
    exact q k m ρ T hm hI
  intro k
  induction k with
  | zero => intro m ρ T hm; omega
  | succ k ih =>
    intro m ρ T hm hI
    rw [loopW_s]
    obtain ⟨c, T1, e1, e2⟩ := h m ρ T hI
    simp only [e1, F.of_ok, asB_bool]
    cases c with
    | false => rw [if_neg Bool.false_ne_true] at e2; exact e2
    | true =>
      rw [if_pos rfl] at e2
      simp only
      cases e3 : denB C O b ρ T1 with
      | nx ρ2 T2 => rw [e3] at e2; obtain ⟨m', h1, h2⟩ := e2; exact ih m' ρ2 T2 (by omega) h2
      | ct ρ2 T2 => rw [e3] at e2; obtain ⟨m', h1, h2⟩ := e2; exact ih m' ρ2 T2 (by omega) h2
      | bk ρ2 T2 => rw [e3] at e2; exact e2
      | rt u T2 => rw [e3] at e2; exact e2
      | exc => rw [e3] at e2; exact e2
      | fail => rw [e3] at e2; exact e2
/-- what a call gives -/
def Gv (r : R U) (P : U → Cs → Prop) : Prop := match r with
  | .ok u T => P u T
  | _ => False
theorem Gv.eq {r : R U} {u : U} {T : Cs} (h : Gv r fun u' T' => u' = u ∧ T' = T) : r = .ok u T := by
  cases r with
  | ok u' T' => obtain ⟨rfl, rfl⟩ := h; rfl
  | exc => exact h.elim
  | fail => exact h.elim
theorem Gv.ex {r : R U} {P : U → Cs → Prop} (h : Gv r P) : ∃ u T, r = .ok u T ∧ P u T := by
  cases r with
  | ok u' T' => exact ⟨_, _, rfl, h⟩
  | exc => exact h.elim
  | fail => exact h.elim
theorem run_wp {j np ns : Nat} {b : CB} {us : List U} {P : U → Cs → Prop} (hG : G.defs j = some ⟨np, ns, b⟩) (hl : us.length = np) (h : Wp (denB (cn G n) O b (us.map some ++ List.replicate (ns - us.length) none) T) (fun _ T' => P (.d .none) T') (fun _ _ => False) (fun _ _ => False) P) : Gv (Y.run G (n + 1) O j us T) P := by
  rw [run_S hG, bodyRun_eq hl]
  cases e : denB (cn G n) O b (us.map some ++ List.replicate (ns - us.length) none) T with
  | nx ρ T' => rw [e] at h; exact h
  | rt u T' => rw [e] at h; exact h
  | bk ρ T' => rw [e] at h; exact h.elim
  | ct ρ T' => rw [e] at h; exact h.elim
  | exc => rw [e] at h; exact h.elim
  | fail => rw [e] at h; exact h.elim
end
mutual
theorem beqD_r : ∀ a : Y.D, beqD a a = true
  | .none => rfl
  | .bool b => by simp [beqD]
  | .int b => by simp [beqD]
  | .str b => by simp [beqD]
  | .list b => by simp [beqD, beqDs_r b]
  | .tuple b => by simp [beqD, beqDs_r b]
  | .dict b => by simp [beqD, beqDp_r b]
theorem beqDp_r : ∀ a : List (Y.D × Y.D), beqDp a a = true
  | [] => rfl
  | (a, x) :: r => by simp [beqDp, beqD_r a, beqD_r x, beqDp_r r]
theorem beqDs_r : ∀ a : List Y.D, beqDs a a = true
  | [] => rfl
  | a :: r => by simp [beqDs, beqD_r a, beqDs_r r]
end
mutual
theorem beqU_r : ∀ a : U, beqU a a = true
  | .d x => by simp [beqU, beqD_r]
  | .ref i => by simp [beqU]
  | .tup us => by simp [beqU, beqUs_r us]
theorem beqUs_r : ∀ a : List U, beqUs a a = true
  | [] => rfl
  | a :: r => by simp [beqUs, beqU_r a, beqUs_r r]
end
theorem beqDk_r : ∀ a : List (Ky × Y.D), beqDk a a = true
  | [] => rfl
  | (k, x) :: r => by simp [beqDk, beqD_r, beqDk_r r]
theorem beqUk_r : ∀ a : List (Ky × U), beqUk a a = true
  | [] => rfl
  | (k, x) :: r => by simp [beqUk, beqU_r, beqUk_r r]
theorem beqFs_r : ∀ a : List (Str × U), beqFs a a = true
  | [] => rfl
  | (k, x) :: r => by simp [beqFs, beqU_r, beqFs_r r]
theorem beqA_r : ∀ a : Cell, beqA a a = true
  | .lst ds => by simp [beqA, beqDs_r]
  | .lstU ds => by simp [beqA, beqUs_r]
  | .dct ds => by simp [beqA, beqDk_r]
  | .dctU ds => by simp [beqA, beqUk_r]
  | .ins c ds => by simp [beqA, beqFs_r]
  | .exn c ds => by simp [beqA, beqFs_r]
  | .dead => rfl
theorem beqCs_r : ∀ a : Cs, beqCs a a = true
  | [] => rfl
  | a :: r => by simp [beqCs, beqA_r, beqCs_r r]
theorem sameW_refl {O T T' : Cs} {i : Nat} {c : Cell} (h : getC O T i = some c) (h' : getC O T' i = some c) (hl : (∃ ds, c = .lst ds) ∨ (∃ us, c = .lstU us) ∨ (∃ k, c = .dct k) ∨ ∃ k, c = .dctU k) : sameW O T T' (some i) = true := by
  unfold sameW
  simp only [h, h']
  rcases hl with ⟨x, rfl⟩ | ⟨x, rfl⟩ | ⟨x, rfl⟩ | ⟨x, rfl⟩
  · exact beqDs_r x
  · exact beqUs_r x
  · exact beqDk_r x
  · exact beqUk_r x
theorem getC_app {O T S : Cs} {i : Nat} {c : Cell} (h : getC O T i = some c) : getC O (T ++ S) i = some c := by
  rw [getC_eq] at h ⊢
  rw [← List.append_assoc, List.getElem?_append_left (List.getElem?_eq_some_iff.mp h).1]
  exact h
section
variable {C : Cn} {O T : Cs} {ρ : Rho} {elt t : CE} {g : Tg} {it : IT} {own : List Nat} {us : List U} {w : Option Nat} {tt : Cs}
/-- one turn of a comprehension -/
def Turn1 (C : Cn) (O : Cs) (ρ : Rho) (elt t : CE) (g : Tg) (own : List Nat) (T1 : Cs) (u : U) (r : Option U) : Prop :=
  ∃ ρ1, asgT O T1 g u (wipeR ρ own) = some ρ1 ∧ match r with
    | some y => den C O ρ1 t T1 = .ok (.d (.bool true)) T1 ∧ den C O ρ1 elt T1 = .ok y T1
    | none => den C O ρ1 t T1 = .ok (.d (.bool false)) T1
theorem comp_run (f : U → Option U) (hw : ∀ acc, sameW O tt (T ++ [.lstU acc]) w = true) (h : ∀ u ∈ us, ∀ acc, Turn1 C O ρ elt t g own (T ++ [.lstU acc]) u (f u)) (hl : us.length ≤ 1000000) :
    compC (fun u T => match asgT O T g u (wipeR ρ own) with
        | some ρ' => (den C O ρ' t T).bind fun b T => brB (asB b) ((den C O ρ' elt T).bind fun y T => .ok (some y) T) (.ok none T)
        | none => .fail) (fun T' => sameW O tt T' w) T.length us (T ++ [.lstU []]) = .ok () (T ++ [.lstU (us.filterMap f)]) := by
  suffices k : ∀ (vs : List U) (acc : List U), acc.length + vs.length ≤ 1000000 → (∀ u ∈ vs, u ∈ us) → compC (fun u T => match asgT O T g u (wipeR ρ own) with
        | some ρ' => (den C O ρ' t T).bind fun b T => brB (asB b) ((den C O ρ' elt T).bind fun y T => .ok (some y) T) (.ok none T)
        | none => .fail) (fun T' => sameW O tt T' w) T.length vs (T ++ [.lstU acc]) = .ok () (T ++ [.lstU (acc ++ vs.filterMap f)]) by
    have := k us [] (by simpa using hl) (fun _ h => h)
    simpa using this
  intro vs
  induction vs with
  | nil =>
    intro acc _ _
    rw [compC, if_pos (hw acc)]
    simp
  | cons v vs ih =>
    intro acc hz hs
    rw [compC, if_pos (hw acc)]
    obtain ⟨ρ1, e1, e2⟩ := h v (hs v List.mem_cons_self) acc
    simp only [e1]
    cases ef : f v with
    | none =>
      rw [ef] at e2
      have e2 : den C O ρ1 t (T ++ [.lstU acc]) = .ok (.d (.bool false)) (T ++ [.lstU acc]) := e2
      simp only [e2, R.bind_ok, asB_bool, brB_f, putC]
      rw [ih acc (by simp at hz; omega) (fun u hu => hs u (List.mem_cons_of_mem _ hu))]
      simp [ef]
    | some y =>
      rw [ef] at e2
      have e3 : den C O ρ1 t (T ++ [.lstU acc]) = .ok (.d (.bool true)) (T ++ [.lstU acc]) := e2.1
      have e4 : den C O ρ1 elt (T ++ [.lstU acc]) = .ok y (T ++ [.lstU acc]) := e2.2
      simp only [e3, e4, R.bind_ok, asB_bool, brB_t, putC]
      have e5 : (T ++ [Cell.lstU acc])[T.length]? = some (.lstU acc) := by simp
      simp only [e5]
      rw [if_pos (by simp at hz ⊢; omega)]
      simp only [R.bind_ok]
      have e6 : (T ++ [Cell.lstU acc]).set T.length (.lstU (acc ++ [y])) = T ++ [.lstU (acc ++ [y])] := by
        rw [List.set_append_right (h := Nat.le_refl _)]
        simp
      rw [e6, ih (acc ++ [y]) (by simp at hz ⊢; omega) (fun u hu => hs u (List.mem_cons_of_mem _ hu))]
      simp [ef]
/-- a comprehension that gives a tree -/
theorem comp_d (f : U → Option U) {ds : List Y.D} (he : denI C O ρ it T = .ok ⟨us, w, tt⟩ T) (hw : ∀ acc, sameW O tt (T ++ [.lstU acc]) w = true) (h : ∀ u ∈ us, ∀ acc, Turn1 C O ρ elt t g own (T ++ [.lstU acc]) u (f u)) (hl : us.length ≤ 1000000) (hd : us.filterMap f = ds.map .d) :
    den C O ρ (.comp false elt g it t own) T = .ok (.d (.list ds)) T := by
  rw [den, he, R.bind_ok]
  refine (congrArg (fun r : R Unit => r.bind fun _ T' => compE O false T T') (comp_run f hw h hl)).trans ?_
  show compE O false T _ = _
  unfold compE
  have e5 : (T ++ [Cell.lstU (us.filterMap f)])[T.length]? = some (.lstU (us.filterMap f)) := by simp
  simp only [e5, hd, allD_map]
  simp [beqCs_r]
/-- .. a cell of its own -/
theorem comp_l (f : U → Option U) (he : denI C O ρ it T = .ok ⟨us, w, tt⟩ T) (hw : ∀ acc, sameW O tt (T ++ [.lstU acc]) w = true) (h : ∀ u ∈ us, ∀ acc, Turn1 C O ρ elt t g own (T ++ [.lstU acc]) u (f u)) (hl : us.length ≤ 1000000) :
    den C O ρ (.comp true elt g it t own) T = .ok (.ref (O.length + T.length)) (T ++ [cellOf (us.filterMap f)]) := by
  rw [den, he, R.bind_ok]
  refine (congrArg (fun r : R Unit => r.bind fun _ T' => compE O true T T') (comp_run f hw h hl)).trans ?_
  show compE O true T _ = _
  unfold compE
  have e5 : (T ++ [Cell.lstU (us.filterMap f)])[T.length]? = some (.lstU (us.filterMap f)) := by simp
  simp only [e5]
  simp
end
end Y

set_option Elab.async false
set_option linter.all false
set_option maxRecDepth 100000
set_option maxHeartbeats 1000000
namespace Y
open PySem
theorem bitAnd_n (a b : Nat) : Builtin.bitAnd (a : Int) (b : Int) = ((a &&& b : Nat) : Int) := by
  unfold Builtin.bitAnd
  simp
theorem bitOr_n (a b : Nat) : Builtin.bitOr (a : Int) (b : Int) = ((a ||| b : Nat) : Int) := by
  unfold Builtin.bitOr Builtin.bitAnd Builtin.bitNot
  have h1 : ¬ (0 ≤ -(a : Int) - 1) := by omega
  have h2 : ¬ (0 ≤ -(b : Int) - 1) := by omega
  simp only [h1, h2, decide_false]
  have e1 : (-(-(a : Int) - 1) - 1).toNat = a := by omega
  have e2 : (-(-(b : Int) - 1) - 1).toNat = b := by omega
  rw [e1, e2]
  omega
theorem bit_iff (m i : Nat) : Builtin.bitAnd ((m : Int) / 2 ^ i) 1 = 1 ↔ m.testBit i = true := by
  rw [PyProof.Rows.bitAnd_m1, Nat.testBit_eq_decide_div_mod_eq, decide_eq_true_eq]
  have : ((m : Int) / 2 ^ i) % 2 = (((m / 2 ^ i) % 2 : Nat) : Int) := by
    simp
  rw [this]
  omega
theorem div_iff (m i : Nat) : ((m : Int) / ((2 ^ i : Nat) : Int)) % 2 = 1 ↔ m.testBit i = true := by
  rw [Nat.testBit_eq_decide_div_mod_eq, decide_eq_true_eq]
  have : ((m : Int) / ((2 ^ i : Nat) : Int)) % 2 = (((m / 2 ^ i) % 2 : Nat) : Int) := by
    simp
  rw [this]
  omega
theorem bitXor_n (a b : Nat) : Builtin.bitXor (a : Int) (b : Int) = ((a ^^^ b : Nat) : Int) := by
  unfold Builtin.bitXor
  rw [bitOr_n, bitAnd_n]
  have h : (a ||| b) = (a ^^^ b) + (a &&& b) := by
    have h1 : (a ^^^ b) &&& (a &&& b) = 0 := by
      apply Nat.eq_of_testBit_eq
      intro i
      simp only [Nat.testBit_and, Nat.testBit_xor, Nat.testBit_or, Nat.zero_testBit]
      cases a.testBit i <;> cases b.testBit i <;> rfl
    have h2 : (a ||| b) = (a ^^^ b) ||| (a &&& b) := by
      apply Nat.eq_of_testBit_eq
      intro i
      simp only [Nat.testBit_and, Nat.testBit_xor, Nat.testBit_or, Nat.zero_testBit]
      cases a.testBit i <;> cases b.testBit i <;> rfl
    rw [h2]
    exact or_add _ _ h1
  omega
where
  or_add : ∀ (x y : Nat), x &&& y = 0 → x ||| y = x + y := by
    intro x
    induction x using Nat.strongRecOn with
    | _ x ih =>
      intro y h
      by_cases hx : x = 0
      · subst hx; simp
      · have hd := ih (x / 2) (by omega) (y / 2) (by rw [← Nat.and_div_two, h])
        have hm : (x ||| y) / 2 = x / 2 ||| y / 2 := Nat.or_div_two
        have h0 : (x ||| y) % 2 = x % 2 + y % 2 := by
          have e : (x &&& y) % 2 = 0 := by rw [h] <;> rfl
          have e1 := Nat.and_mod_two_pow (a := x) (b := y) (n := 1)
          have e2 := Nat.or_mod_two_pow (a := x) (b := y) (n := 1)
          simp only [Nat.pow_one] at e1 e2
          rw [e] at e1
          rw [e2]
          have a1 : x % 2 = 0 ∨ x % 2 = 1 := by omega
          have a2 : y % 2 = 0 ∨ y % 2 = 1 := by omega
          rcases a1 with a1 | a1 <;> rcases a2 with a2 | a2 <;> rw [a1, a2] at e1 ⊢ <;> simp at e1 ⊢
        omega
/-- what a mask leads to by a table -/
def imgF (m : Nat) (acc : Nat) (p : Nat × Nat) : Nat := if m.testBit p.2 then acc ||| p.1 else acc
def img (tb : List Nat) (m : Nat) : Nat := tb.zipIdx.foldl (imgF m) 0
theorem imgF_bit (m j : Nat) : ∀ (ps : List (Nat × Nat)) (acc : Nat), (ps.foldl (imgF m) acc).testBit j = (acc.testBit j || ps.any fun p => m.testBit p.2 && p.1.testBit j)
  | [], acc => by simp
  | p :: ps, acc => by
    rw [List.foldl_cons, imgF_bit m j ps, List.any_cons]
    unfold imgF
    cases h : m.testBit p.2 with
    | false => simp
    | true => simp [Bool.or_assoc]
theorem img_bit (tb : List Nat) (m j : Nat) : (img tb m).testBit j = tb.zipIdx.any fun p => m.testBit p.2 && p.1.testBit j := by
  unfold img
  rw [imgF_bit]
  simp
theorem img_iff (tb : List Nat) (m j : Nat) : (img tb m).testBit j = true ↔ ∃ i r, tb[i]? = some r ∧ m.testBit i = true ∧ r.testBit j = true := by
  rw [img_bit, List.any_eq_true]
  constructor
  · rintro ⟨⟨r, i⟩, h1, h2⟩
    rw [List.mem_zipIdx_iff_getElem?] at h1
    simp only [Bool.and_eq_true] at h2
    exact ⟨i, r, h1, h2.1, h2.2⟩
  · rintro ⟨i, r, h1, h2, h3⟩
    exact ⟨(r, i), by rw [List.mem_zipIdx_iff_getElem?]; exact h1, by simp [h2, h3]⟩
theorem eq_bits {a b : Nat} (h : ∀ j, a.testBit j = true ↔ b.testBit j = true) : a = b := by
  apply Nat.eq_of_testBit_eq
  intro j
  have := h j
  cases e : a.testBit j <;> cases e' : b.testBit j <;> simp_all
theorem img_then (t1 t2 : List Nat) (m : Nat) : img (t1.map (img t2)) m = img t2 (img t1 m) := by
  apply eq_bits
  intro j
  rw [img_iff, img_iff]
  constructor
  · rintro ⟨i, r, h1, h2, h3⟩
    rw [List.getElem?_map, Option.map_eq_some_iff] at h1
    obtain ⟨q, h1, rfl⟩ := h1
    rw [img_iff] at h3
    obtain ⟨k, s, h4, h5, h6⟩ := h3
    exact ⟨k, s, h4, (img_iff _ _ _).mpr ⟨i, q, h1, h2, h5⟩, h6⟩
  · rintro ⟨k, s, h4, h5, h6⟩
    rw [img_iff] at h5
    obtain ⟨i, q, h1, h2, h5⟩ := h5
    exact ⟨i, _, by rw [List.getElem?_map, h1]; rfl, h2, (img_iff _ _ _).mpr ⟨k, s, h4, h5, h6⟩⟩
def sameT (n : Nat) : List Nat := (List.range n).map (2 ^ ·)
theorem sameT_get {n i r : Nat} : (sameT n)[i]? = some r ↔ i < n ∧ r = 2 ^ i := by
  unfold sameT
  rw [List.getElem?_map]
  by_cases h : i < n
  · rw [List.getElem?_range h]
    simp [h, eq_comm]
  · rw [List.getElem?_eq_none (by simp; omega)]
    simp [h]
theorem img_same (n m : Nat) : img (sameT n) m = m % 2 ^ n := by
  apply eq_bits
  intro j
  rw [img_iff, Nat.testBit_mod_two_pow]
  simp only [Bool.and_eq_true, decide_eq_true_eq]
  constructor
  · rintro ⟨i, r, h1, h2, h3⟩
    rw [sameT_get] at h1
    obtain ⟨h1, rfl⟩ := h1
    rw [Nat.testBit_two_pow, decide_eq_true_eq] at h3
    subst h3
    exact ⟨h1, h2⟩
  · rintro ⟨h1, h2⟩
    exact ⟨j, 2 ^ j, sameT_get.mpr ⟨h1, rfl⟩, h2, by rw [Nat.testBit_two_pow]; simp⟩
theorem bit_lt {m k : Nat} (h : ∀ j, k ≤ j → m.testBit j = false) : m < 2 ^ k := by
  apply Nat.lt_pow_two_of_testBit
  intro j hj
  exact h j hj
theorem img_lt {tb : List Nat} {m : Nat} (h : ∀ r ∈ tb, r < 64) : img tb m < 64 := by
  have : img tb m < 2 ^ 6 := by
    refine bit_lt fun j hj => ?_
    cases e : (img tb m).testBit j with
    | false => rfl
    | true =>
      rw [img_iff] at e
      obtain ⟨i, r, h1, h2, h3⟩ := e
      have hr := h r (List.mem_of_getElem? h1)
      have : r.testBit j = false := Nat.testBit_lt_two_pow (Nat.lt_of_lt_of_le hr (by show 2 ^ 6 ≤ 2 ^ j; exact Nat.pow_le_pow_right (by decide) hj))
      rw [this] at h3
      cases h3
  exact this
theorem img_one {tb : List Nat} {i r : Nat} (h : tb[i]? = some r) : img tb (2 ^ i) = r := by
  apply eq_bits
  intro j
  rw [img_iff]
  constructor
  · rintro ⟨k, s, h1, h2, h3⟩
    rw [Nat.testBit_two_pow, decide_eq_true_eq] at h2
    subst h2
    rw [h] at h1
    cases h1
    exact h3
  · intro h3
    exact ⟨i, r, h, by rw [Nat.testBit_two_pow]; simp, h3⟩
theorem sameT_then (t : List Nat) (f : Nat → Nat) : (sameT t.length).map (fun m => f (img t m)) = t.map f := by
  apply List.ext_getElem?
  intro i
  rw [List.getElem?_map, List.getElem?_map]
  by_cases h : i < t.length
  · have e : (sameT t.length)[i]? = some (2 ^ i) := sameT_get.mpr ⟨h, rfl⟩
    rw [e, List.getElem?_eq_getElem h]
    simp only [Option.map_some]
    rw [img_one (List.getElem?_eq_getElem h)]
  · rw [List.getElem?_eq_none (by unfold sameT; simp; omega), List.getElem?_eq_none (by omega)] <;> rfl
/-- tables gone one after another -/
def imgs (ts : List (List Nat)) (m : Nat) : Nat := ts.foldl (fun m t => img t m) m
theorem left_eq (ts : List (List Nat)) : ∀ L : List Nat, ts.foldl (fun L t => L.map (img t)) L = L.map (imgs ts) := by
  induction ts with
  | nil =>
    intro L
    have : imgs [] = id := rfl
    rw [this]; simp
  | cons t ts ih =>
    intro L
    rw [List.foldl_cons, ih, List.map_map]
    rfl
def rightT (ts : List (List Nat)) : List Nat := ts.foldr (fun t R => t.map (img R)) (sameT 6)
theorem right_img (ts : List (List Nat)) (h : ∀ t ∈ ts, ∀ r ∈ t, r < 64) : ∀ m, m < 64 → img (rightT ts) m = imgs ts m := by
  induction ts with
  | nil =>
    intro m hm
    show img (sameT 6) m = m
    rw [img_same]
    omega
  | cons t ts ih =>
    intro m hm
    show img (t.map (img (rightT ts))) m = imgs ts (img t m)
    rw [img_then]
    exact ih (fun t' h' => h t' (List.mem_cons_of_mem _ h')) _ (img_lt (h t List.mem_cons_self))
theorem right_eq (t : List Nat) (ts : List (List Nat)) (h : ∀ t' ∈ t :: ts, ∀ r ∈ t', r < 64) : rightT (t :: ts) = t.map (imgs ts) := by
  show t.map (img (rightT ts)) = _
  apply List.map_congr_left
  intro r hr
  exact right_img ts (fun t' h' => h t' (List.mem_cons_of_mem _ h')) r (h t List.mem_cons_self r hr)
theorem left_right (t : List Nat) (ts : List (List Nat)) (h : ∀ t' ∈ t :: ts, ∀ r ∈ t', r < 64) : (t :: ts).foldl (fun L t => L.map (img t)) (sameT t.length) = rightT (t :: ts) := by
  rw [left_eq, right_eq t ts h]
  exact sameT_then t (imgs ts)
/-- whole numbers as trees -/
def nI (r : Nat) : D := .int (r : Int)
def nD (l : List Nat) : List D := l.map nI
@[simp] theorem nD_len (l : List Nat) : (nD l).length = l.length := by unfold nD; simp
@[simp] theorem nD_get (l : List Nat) (i : Nat) : (nD l)[i]? = (l[i]?).map nI := by unfold nD; rw [List.getElem?_map]
theorem nD_app (a b : List Nat) : nD (a ++ b) = nD a ++ nD b := by unfold nD; simp
mutual
def noB : D → Bool
  | .none => true
  | .int _ => true
  | .str _ => true
  | .list xs => noBs xs
  | .tuple xs => noBs xs
  | .bool _ => false
  | .dict _ => false
def noBs : List D → Bool
  | [] => true
  | x :: xs => noB x && noBs xs
end
mutual
theorem eqv_iff : ∀ (a b : D), noB a = true → noB b = true → (PyData.eqv a b = true ↔ a = b)
  | .none, b, _, hb => by cases b <;> simp [PyData.eqv, noB] at *
  | .int i, b, _, hb => by cases b <;> simp [PyData.eqv, noB] at *
  | .str i, b, _, hb => by cases b <;> simp [PyData.eqv, noB] at *
  | .list xs, b, ha, hb => by
    cases b with
    | list ys =>
      rw [noB] at ha hb
      rw [PyData.eqv, eqvs_iff xs ys ha hb]
      simp
    | _ => simp [PyData.eqv, noB] at *
  | .tuple xs, b, ha, hb => by
    cases b with
    | tuple ys =>
      rw [noB] at ha hb
      rw [PyData.eqv, eqvs_iff xs ys ha hb]
      simp
    | _ => simp [PyData.eqv, noB] at *
  | .bool _, b, ha, hb => by simp [noB] at ha
  | .dict _, b, ha, hb => by simp [noB] at ha
theorem eqvs_iff : ∀ (a b : List D), noBs a = true → noBs b = true → (PyData.eqvAll a b = true ↔ a = b)
  | [], b, _, hb => by cases b <;> simp [PyData.eqvAll]
  | x :: xs, b, ha, hb => by
    cases b with
    | nil => simp [PyData.eqvAll]
    | cons y ys =>
      rw [noBs, Bool.and_eq_true] at ha hb
      rw [PyData.eqvAll, Bool.and_eq_true, eqv_iff x y ha.1 hb.1, eqvs_iff xs ys ha.2 hb.2]
      simp
end
theorem eqv_dec {a b : D} [Decidable (a = b)] (ha : noB a = true) (hb : noB b = true) : PyData.eqv a b = decide (a = b) := by
  rw [Bool.eq_iff_iff, eqv_iff a b ha hb]
  simp
theorem noB_nD (l : List Nat) : noBs (nD l) = true := by
  induction l with
  | nil => rfl
  | cons a l ih => exact ih
theorem nD_inj {a b : List Nat} (h : nD a = nD b) : a = b := by
  induction a generalizing b with
  | nil => cases b with
    | nil => rfl
    | cons _ _ => simp [nD] at h
  | cons x xs ih => cases b with
    | nil => simp [nD] at h
    | cons y ys =>
      simp only [nD, nI, List.map_cons, List.cons.injEq, PyData.int.injEq] at h
      rw [ih h.2, Int.ofNat_inj.mp h.1]
def lay (k : Nat) (d : D) : Prop := d.canLay0 = true ∧ d.depth ≤ k
theorem lays {k : Nat} : ∀ {xs : List D}, (∀ x ∈ xs, lay k x) → PyData.canLayAll0 xs = true ∧ PyData.depthAll xs ≤ k
  | [], _ => ⟨rfl, Nat.zero_le _⟩
  | x :: xs, h => by
    have h1 := h x List.mem_cons_self
    have h2 := lays (fun y hy => h y (List.mem_cons_of_mem _ hy))
    rw [PyData.canLayAll0, PyData.depthAll, h1.1, h2.1]
    exact ⟨rfl, Nat.max_le.mpr ⟨h1.2, h2.2⟩⟩
theorem lay_tuple {k : Nat} {xs : List D} (h : ∀ x ∈ xs, lay k x) : lay (k + 1) (.tuple xs) := by
  have := lays h
  refine ⟨?_, ?_⟩
  · rw [PyData.canLay0]; exact this.1
  · rw [PyData.depth]; omega
theorem lay_list {k : Nat} {xs : List D} (h : ∀ x ∈ xs, lay k x) : lay (k + 1) (.list xs) := by
  have := lays h
  refine ⟨?_, ?_⟩
  · rw [PyData.canLay0]; exact this.1
  · rw [PyData.depth]; omega
theorem lay_int (i : Int) : lay 0 (.int i) := ⟨rfl, Nat.le_refl _⟩
theorem lay.shp {k : Nat} {d : D} (h : lay k d) (hk : k ≤ 64) : shp d = true := by
  show (d.canLay0 && decide (d.depth ≤ 64)) = true
  rw [h.1, decide_eq_true (Nat.le_trans h.2 hk)]
  rfl
theorem lay_nT (l : List Nat) : lay 1 (.tuple (nD l)) := lay_tuple fun x hx => by
  unfold nD at hx
  obtain ⟨r, _, rfl⟩ := List.mem_map.mp hx
  exact lay_int _
theorem lay_nL (l : List Nat) : lay 1 (.list (nD l)) := lay_list fun x hx => by
  unfold nD at hx
  obtain ⟨r, _, rfl⟩ := List.mem_map.mp hx
  exact lay_int _
theorem cmp_eqD {O T : Cs} {a b : D} [Decidable (a = b)] (ha : shp a = true) (hb : shp b = true) (na : noB a = true) (nb : noB b = true) : cmpU O .eq (.d a) (.d b) T = some (decide (a = b)) := by
  show (if shp a && shp b then some (PyData.eqv a b) else none) = _
  rw [ha, hb, eqv_dec na nb]
  rfl
theorem cmp_neD {O T : Cs} {a b : D} [Decidable (a = b)] (ha : shp a = true) (hb : shp b = true) (na : noB a = true) (nb : noB b = true) : cmpU O .ne (.d a) (.d b) T = some (!decide (a = b)) := by
  show (if shp a && shp b then some (!PyData.eqv a b) else none) = _
  rw [ha, hb, eqv_dec na nb]
  rfl
theorem cmp_eqT {O T : Cs} (a b : List Nat) : cmpU O .eq (.d (.tuple (nD a))) (.d (.tuple (nD b))) T = some (decide (a = b)) := by
  haveI : Decidable ((PyData.tuple (nD a)) = .tuple (nD b)) := decidable_of_iff (a = b) ⟨fun h => by rw [h], fun h => nD_inj (by injection h)⟩
  rw [cmp_eqD ((lay_nT a).shp (by decide)) ((lay_nT b).shp (by decide)) (noB_nD a) (noB_nD b)]
  have : (PyData.tuple (nD a) = PyData.tuple (nD b)) ↔ a = b := ⟨fun h => nD_inj (by injection h), fun h => by rw [h]⟩
  simp only [this]
theorem cmp_neT {O T : Cs} (a b : List Nat) : cmpU O .ne (.d (.tuple (nD a))) (.d (.tuple (nD b))) T = some (!decide (a = b)) := by
  haveI : Decidable ((PyData.tuple (nD a)) = .tuple (nD b)) := decidable_of_iff (a = b) ⟨fun h => by rw [h], fun h => nD_inj (by injection h)⟩
  rw [cmp_neD ((lay_nT a).shp (by decide)) ((lay_nT b).shp (by decide)) (noB_nD a) (noB_nD b)]
  have : (PyData.tuple (nD a) = PyData.tuple (nD b)) ↔ a = b := ⟨fun h => nD_inj (by injection h), fun h => by rw [h]⟩
  simp only [this]
theorem cut_map {α β : Type} (f : α → β) (xs : List α) (l h : Option Int) : cut (xs.map f) l h = (cut xs l h).map f := by
  unfold cut
  simp [List.map_take, List.map_drop]
@[simp] theorem slcU_L (O T : Cs) (b : Bool) (ds : List D) (l h : Option Int) : slcU O b (.d (.list ds)) l h T = mkL O b ((cut ds l h).map .d) T := by
  show mkL O b (cut (ds.map U.d) l h) T = _
  rw [cut_map]
@[simp] theorem slcU_T (O T : Cs) (b : Bool) (ds : List D) (l h : Option Int) : slcU O b (.d (.tuple ds)) l h T = .ok (.d (.tuple (cut ds l h))) T := by
  show R.ok (mkT (cut (ds.map U.d) l h)) T = _
  rw [cut_map, mkT_map]
theorem cut_to {α : Type} (xs : List α) (k : Int) (h : 0 ≤ k) : cut xs none (some k) = xs.take k.toNat := by
  unfold cut HT.sIx
  simp
  rw [if_neg (by omega)]
  omega
@[simp] theorem getC_0 (O T : Cs) : getC O T O.length = T[0]? := by unfold getC; simp
@[simp] theorem getC_k (O T : Cs) (k : Nat) : getC O T (O.length + k) = T[k]? := by
  unfold getC
  rw [if_neg (by omega)]
  congr 1
  omega
@[simp] theorem setC_0 (O T : Cs) (c : Cell) : setC O T O.length c = if 0 < T.length then .ok (.d .none) (T.set 0 c) else .fail := by
  unfold setC
  simp
@[simp] theorem setC_k (O T : Cs) (k : Nat) (c : Cell) : setC O T (O.length + k) c = if k < T.length then .ok (.d .none) (T.set k c) else .fail := by
  unfold setC
  have : O.length + k - O.length = k := by omega
  simp [this]
@[simp] theorem mtU_append (O T : Cs) (l : Bool) (r : Nat) (v : U) : mtU O l .append (.ref r) [v] T = appU O r v T := rfl
@[simp] theorem tyU_ref (O T : Cs) (i : Nat) : tyU O T (.ref i) = match getC O T i with
    | some (.lst _) | some (.lstU _) => some .list
    | some (.dct _) | some (.dctU _) => some .dict
    | _ => none := rfl
@[simp] theorem appU_eq (O T : Cs) (r : Nat) (v : U) : appU O r v T = match getC O T r with
  | some (.lst ds) => if sizeOk ds.length then match v with
    | .d x => setC O T r (.lst (ds ++ [x]))
    | v => setC O T r (.lstU (ds.map .d ++ [v]))
    else .fail
  | some (.lstU us) => if sizeOk us.length then setC O T r (.lstU (us ++ [v])) else .fail
  | _ => .fail := rfl
@[simp] theorem tupleB_ref (O T : Cs) (i : Nat) : tupleB O T (.ref i) = match seqL O T (.ref i) with
  | some us => .ok (mkT us) T
  | none => .fail := by
  unfold tupleB
  cases seqL O T (.ref i) <;> rfl
theorem mul_ok {i j : Int} (h : -18446744073709551616 < j ∧ j < 18446744073709551616) : mulOk i j = true := by
  unfold mulOk
  simp [h.1, h.2]
theorem mul_okL {i j : Int} (h : -18446744073709551616 < i ∧ i < 18446744073709551616) : mulOk i j = true := by
  unfold mulOk
  simp [h.1, h.2]
theorem atI_nat {α : Type} (xs : List α) (i : Int) (h : 0 ≤ i) (h2 : i < xs.length) : L2.atI xs i = xs[i.toNat]? := by
  unfold L2.atI L2.ixN
  simp [h, h2]
end Y

set_option Elab.async false
set_option linter.all false
set_option maxRecDepth 100000
set_option maxHeartbeats 1000000
namespace Y
open PySem
theorem putK_len {α : Type} (kvs : List (Ky × α)) (k : Ky) (v : α) : (putK kvs k v).length ≤ kvs.length + 1 := by
  unfold putK
  split <;> simp
theorem putK_mem {α : Type} {kvs : List (Ky × α)} {k : Ky} {v : α} {p : Ky × α} (h : p ∈ putK kvs k v) : p ∈ kvs ∨ p = (k, v) := by
  unfold putK at h
  split at h
  · rw [List.mem_map] at h
    obtain ⟨q, hq, rfl⟩ := h
    split
    · rename_i e; right; rw [e]
    · left; exact hq
  · rw [List.mem_append] at h
    rcases h with h | h
    · exact .inl h
    · simp at h; exact .inr h
theorem lookK_mem {α : Type} {kvs : List (Ky × α)} {k : Ky} {v : α} (h : lookK kvs k = some v) : (k, v) ∈ kvs := by
  unfold lookK at h
  rw [Option.map_eq_some_iff] at h
  obtain ⟨p, hp, rfl⟩ := h
  have h1 := List.mem_of_find?_eq_some hp
  have h2 := List.find?_some hp
  simp at h2
  rw [← h2]
  exact h1
theorem lookK_put {α : Type} (kvs : List (Ky × α)) (k k' : Ky) (v : α) : lookK (putK kvs k v) k' = if k' = k then some v else lookK kvs k' := by
  unfold putK
  by_cases ha : (kvs.any fun p => decide (p.1 = k)) = true
  · rw [if_pos ha]
    induction kvs with
    | nil => simp at ha
    | cons p kvs ih =>
      unfold lookK at ih ⊢
      simp only [List.map_cons]
      by_cases h1 : p.1 = k
      · rw [if_pos h1]
        by_cases h2 : k' = k
        · subst h2
          simp [h1]
        · rw [if_neg h2]
          have h3 : ¬ p.1 = k' := fun e => h2 (by rw [← e, h1])
          simp only [List.find?_cons, h3, decide_false]
          by_cases hb : (kvs.any fun p => decide (p.1 = k)) = true
          · have := ih hb
            rw [if_neg h2] at this
            exact this
          · have e : (kvs.map fun p => if p.1 = k then (p.1, v) else p) = kvs := by
              conv => rhs; rw [← List.map_id kvs]
              refine List.map_congr_left fun q hq => ?_
              rw [if_neg]
              · rfl
              · intro e
                apply hb
                rw [List.any_eq_true]
                exact ⟨q, hq, by simp [e]⟩
            rw [e]
      · rw [if_neg h1]
        have hb : (kvs.any fun p => decide (p.1 = k)) = true := by
          simpa [h1] using ha
        by_cases h3 : p.1 = k'
        · have h2 : ¬ k' = k := fun e => h1 (by rw [h3, e])
          rw [if_neg h2]
          simp [h3]
        · have := ih hb
          simp only [List.find?_cons, h3, decide_false]
          exact this
  · rw [if_neg ha]
    have hk : ∀ q ∈ kvs, ¬ q.1 = k := by
      intro q hq e
      apply ha
      rw [List.any_eq_true]
      exact ⟨q, hq, by simp [e]⟩
    clear ha
    induction kvs with
    | nil =>
      unfold lookK
      by_cases h2 : k = k'
      · subst h2; simp
      · have : ¬ k' = k := fun e => h2 e.symm
        simp [h2, this]
    | cons p kvs ih =>
      unfold lookK at ih ⊢
      have h1 := hk p List.mem_cons_self
      by_cases h3 : p.1 = k'
      · have h2 : ¬ k' = k := fun e => h1 (by rw [h3, e])
        simp [h3, h2]
      · have := ih fun q hq => hk q (List.mem_cons_of_mem _ hq)
        simp only [List.cons_append, List.find?_cons, h3, decide_false]
        exact this
theorem nD_any (F : List Nat) (w : Int) : ((nD F).any fun z => PyData.eqv z (.int w)) = decide (∃ f ∈ F, (f : Int) = w) := by
  rw [Bool.eq_iff_iff, List.any_eq_true, decide_eq_true_eq]
  constructor
  · rintro ⟨z, hz, e⟩
    simp only [nD, nI, List.map_map, List.mem_map, Function.comp] at hz
    obtain ⟨f, hf, rfl⟩ := hz
    exact ⟨f, hf, by simpa [PyData.eqv] using e⟩
  · rintro ⟨f, hf, e⟩
    refine ⟨.int (f : Int), by simp only [nD, nI, List.map_map, List.mem_map, Function.comp]; exact ⟨f, hf, rfl⟩, by simp [PyData.eqv, e]⟩
theorem isin_nL {O T : Cs} (F : List Nat) (w : Int) : cmpU O .isin (.d (.int w)) (.d (.list (nD F))) T = some (decide (∃ f ∈ F, (f : Int) = w)) := by
  show (if shp (.int w) && shp (.list (nD F)) then some ((nD F).any fun z => PyData.eqv z (.int w)) else none) = _
  rw [(lay_int w).shp (by decide), (lay_nL F).shp (by decide), nD_any]
  rfl
theorem notin_nL {O T : Cs} (F : List Nat) (w : Int) : cmpU O .notin (.d (.int w)) (.d (.list (nD F))) T = some (!decide (∃ f ∈ F, (f : Int) = w)) := by
  show (cmpU.isinU O (.d (.int w)) (.d (.list (nD F))) T).map (!·) = _
  have := isin_nL (O := O) (T := T) F w
  rw [show cmpU O .isin (.d (.int w)) (.d (.list (nD F))) T = cmpU.isinU O (.d (.int w)) (.d (.list (nD F))) T from rfl] at this
  rw [this] <;> rfl
theorem dictOf_0 {O T : Cs} {kvs : List (Ky × D)} : dictOf O (.dct kvs :: T) (.ref O.length) = some (kvs.map fun p => (p.1, .d p.2)) := by
  unfold dictOf
  simp
theorem lookK_d (kvs : List (Ky × D)) (k : Ky) : lookK (kvs.map fun p => (p.1, U.d p.2)) k = (lookK kvs k).map .d := by
  unfold lookK
  rw [List.find?_map, Option.map_map, Option.map_map]
  rfl
theorem pickS_map {α β : Type} (f : α → β) (lo : Option Int) (k : Int) (us : List α) : pickS lo k (us.map f) = (pickS lo k us).map f := by
  unfold pickS
  rw [List.length_map, List.map_filterMap]
  simp
theorem pickS_len {α : Type} (lo : Option Int) (k : Int) (us : List α) : (pickS lo k us).length ≤ us.length := by
  have := slicePick_size_le (us.map fun _ => Value.none).toArray lo none (some k)
  unfold slicePick at this
  unfold pickS
  simp at this
  refine Nat.le_trans (Nat.le_of_eq ?_) this
  generalize (sliceRange _ _ _) = ix
  induction ix with
  | nil => rfl
  | cons i ix ih =>
    by_cases h : i < us.length
    · simp [h, ih]
    · simp [h, ih]
theorem fm_row (g : Nat → Bool) (n : Nat) : (rngU 0 n 1).filterMap (fun u => match u with
    | .d (.int e) => if g e.toNat = true then some u else none
    | _ => none) = (nD ((List.range n).filter g)).map .d := by
  unfold rngU nD nI
  rw [List.filterMap_map]
  generalize List.range n = l
  induction l with
  | nil => rfl
  | cons a l ih =>
    by_cases h : g a = true
    · simp [h] at ih ⊢
      exact ih
    · simp [h] at ih ⊢
      exact ih
/-- a turn of a comprehension with a test -/
theorem turn_flt {C : Cn} {O T1 : Cs} {ρ ρ1 : Rho} {elt t : CE} {g : Tg} {own : List Nat} {u y : U} {b : Bool} (h1 : asgT O T1 g u (wipeR ρ own) = some ρ1) (h2 : den C O ρ1 t T1 = .ok (.d (.bool b)) T1) (h3 : den C O ρ1 elt T1 = .ok y T1) : Turn1 C O ρ elt t g own T1 u (if b = true then some y else none) := by
  refine ⟨ρ1, h1, ?_⟩
  cases b with
  | true => exact ⟨h2, h3⟩
  | false => exact h2
theorem turn_all {C : Cn} {O T1 : Cs} {ρ ρ1 : Rho} {elt : CE} {g : Tg} {own : List Nat} {u y : U} (h1 : asgT O T1 g u (wipeR ρ own) = some ρ1) (h3 : den C O ρ1 elt T1 = .ok y T1) : Turn1 C O ρ elt (.c (.bool true)) g own T1 u (some y) :=
  ⟨ρ1, h1, by simp, h3⟩
section
variable {C : Cn} {O T : Cs} {ρ : Rho} {elt t a b : CE} {g : Tg} {it : IT} {own : List Nat} {us : List U} {w : Option Nat} {tt : Cs}
theorem comp_runI (rs : List (Option U)) (hw : ∀ acc, sameW O tt (T ++ [.lstU acc]) w = true) (hlen : rs.length = us.length) (h : ∀ (i : Nat) (u : U) (r : Option U), us[i]? = some u → rs[i]? = some r → ∀ acc, Turn1 C O ρ elt t g own (T ++ [.lstU acc]) u r) (hl : us.length ≤ 1000000) :
    compC (fun u T => match asgT O T g u (wipeR ρ own) with
        | some ρ' => (den C O ρ' t T).bind fun b T => brB (asB b) ((den C O ρ' elt T).bind fun y T => .ok (some y) T) (.ok none T)
        | none => .fail) (fun T' => sameW O tt T' w) T.length us (T ++ [.lstU []]) = .ok () (T ++ [.lstU (rs.filterMap id)]) := by
  suffices k : ∀ (vs : List U) (qs : List (Option U)) (acc : List U), acc.length + vs.length ≤ 1000000 → vs.length = qs.length → (∀ (i : Nat) (u : U) (r : Option U), vs[i]? = some u → qs[i]? = some r → ∀ acc, Turn1 C O ρ elt t g own (T ++ [.lstU acc]) u r) → compC (fun u T => match asgT O T g u (wipeR ρ own) with
        | some ρ' => (den C O ρ' t T).bind fun b T => brB (asB b) ((den C O ρ' elt T).bind fun y T => .ok (some y) T) (.ok none T)
        | none => .fail) (fun T' => sameW O tt T' w) T.length vs (T ++ [.lstU acc]) = .ok () (T ++ [.lstU (acc ++ qs.filterMap id)]) by
    have := k us rs [] (by simpa using hl) hlen.symm h
    simpa using this
  intro vs
  induction vs with
  | nil =>
    intro qs acc _ hq _
    have : qs = [] := List.eq_nil_of_length_eq_zero hq.symm
    subst this
    rw [compC, if_pos (hw acc)]
    simp
  | cons v vs ih =>
    intro qs acc hz hq hs
    cases qs with
    | nil => simp at hq
    | cons r qs =>
      rw [compC, if_pos (hw acc)]
      obtain ⟨ρ1, e1, e2⟩ := hs 0 v r rfl rfl acc
      simp only [e1]
      have hs' : ∀ (i : Nat) (u : U) (r : Option U), vs[i]? = some u → qs[i]? = some r → ∀ acc, Turn1 C O ρ elt t g own (T ++ [.lstU acc]) u r := fun i u r a b => hs (i + 1) u r (by simpa using a) (by simpa using b)
      have hq' : vs.length = qs.length := by simpa using hq
      cases r with
      | none =>
        have e2 : den C O ρ1 t (T ++ [.lstU acc]) = .ok (.d (.bool false)) (T ++ [.lstU acc]) := e2
        simp only [e2, R.bind_ok, asB_bool, brB_f, putC]
        rw [ih qs acc (by simp at hz; omega) hq' hs']
        simp
      | some y =>
        have e3 : den C O ρ1 t (T ++ [.lstU acc]) = .ok (.d (.bool true)) (T ++ [.lstU acc]) := e2.1
        have e4 : den C O ρ1 elt (T ++ [.lstU acc]) = .ok y (T ++ [.lstU acc]) := e2.2
        simp only [e3, e4, R.bind_ok, asB_bool, brB_t, putC]
        have e5 : (T ++ [Cell.lstU acc])[T.length]? = some (.lstU acc) := by simp
        simp only [e5]
        rw [if_pos (by simp at hz ⊢; omega)]
        simp only [R.bind_ok]
        have e6 : (T ++ [Cell.lstU acc]).set T.length (.lstU (acc ++ [y])) = T ++ [.lstU (acc ++ [y])] := by
          rw [List.set_append_right (h := Nat.le_refl _)]
          simp
        rw [e6, ih qs (acc ++ [y]) (by simp at hz ⊢; omega) hq' hs']
        simp
theorem comp_i (rs : List (Option U)) {ds : List Y.D} (he : denI C O ρ it T = .ok ⟨us, w, tt⟩ T) (hw : ∀ acc, sameW O tt (T ++ [.lstU acc]) w = true) (hlen : rs.length = us.length) (h : ∀ (i : Nat) (u : U) (r : Option U), us[i]? = some u → rs[i]? = some r → ∀ acc, Turn1 C O ρ elt t g own (T ++ [.lstU acc]) u r) (hl : us.length ≤ 1000000) (hd : rs.filterMap id = ds.map .d) :
    den C O ρ (.comp false elt g it t own) T = .ok (.d (.list ds)) T := by
  rw [den, he, R.bind_ok]
  refine (congrArg (fun r : R Unit => r.bind fun _ T' => compE O false T T') (comp_runI rs hw hlen h hl)).trans ?_
  show compE O false T _ = _
  unfold compE
  have e5 : (T ++ [Cell.lstU (rs.filterMap id)])[T.length]? = some (.lstU (rs.filterMap id)) := by simp
  simp only [e5, hd, allD_map]
  simp [beqCs_r]
/-- every turn gives one -/
theorem comp_m {ds : List Y.D} (he : denI C O ρ it T = .ok ⟨us, w, tt⟩ T) (hw : ∀ acc, sameW O tt (T ++ [.lstU acc]) w = true) (hlen : ds.length = us.length) (h : ∀ (i : Nat) (u : U) (d : Y.D), us[i]? = some u → ds[i]? = some d → ∀ acc, Turn1 C O ρ elt t g own (T ++ [.lstU acc]) u (some (.d d))) (hl : us.length ≤ 1000000) :
    den C O ρ (.comp false elt g it t own) T = .ok (.d (.list ds)) T := by
  refine comp_i (ds.map fun d => some (.d d)) he hw (by simpa using hlen) ?_ hl (by
    induction ds with
    | nil => rfl
    | cons a l ih => simp [List.filterMap_map, Function.comp_def])
  intro i u r h1 h2 acc
  rw [List.getElem?_map, Option.map_eq_some_iff] at h2
  obtain ⟨d, hd, rfl⟩ := h2
  exact h i u d h1 hd acc
theorem zipT_ok {xs ys : List D} (ha : den C O ρ a T = .ok (.d (.tuple xs)) T) (hb : den C O ρ b T = .ok (.d (.tuple ys)) T) : denI C O ρ (.zipL a b) T = .ok ⟨(xs.zip ys).map fun p => .d (.tuple [p.1, p.2]), none, T⟩ T := by
  rw [denI, ha, R.bind_ok, hb, R.bind_ok]
  show (.ok ⟨((xs.map U.d).zip (ys.map U.d)).map fun p => mkT [p.1, p.2], none, T⟩ T : R Its) = _
  rw [List.zip_map, List.map_map]
  rfl
theorem zipL_ok {xs ys : List D} (ha : den C O ρ a T = .ok (.d (.list xs)) T) (hb : den C O ρ b T = .ok (.d (.list ys)) T) : denI C O ρ (.zipL a b) T = .ok ⟨(xs.zip ys).map fun p => .d (.tuple [p.1, p.2]), none, T⟩ T := by
  rw [denI, ha, R.bind_ok, hb, R.bind_ok]
  show (.ok ⟨((xs.map U.d).zip (ys.map U.d)).map fun p => mkT [p.1, p.2], none, T⟩ T : R Its) = _
  rw [List.zip_map, List.map_map]
  rfl
end
theorem intsOf_nD (l : List Nat) : intsOf (nD l) = some (l.map fun n : Nat => (n : Int)) := by
  induction l with
  | nil => rfl
  | cons a l ih =>
    show (intsOf (nD l)).map ((a : Int) :: ·) = _
    rw [ih] <;> rfl
theorem sum_cast (l : List Nat) : (l.map fun n : Nat => (n : Int)).sum = ((l.sum : Nat) : Int) := by
  induction l with
  | nil => rfl
  | cons a l ih => simp [ih]
theorem sum_nD (O T : Cs) (l : List Nat) : sumB O T (.d (.list (nD l))) = .ok (.d (.int ((l.sum : Nat) : Int))) T := by
  unfold sumB listD
  simp only [Option.bind_some, intsOf_nD, sum_cast]
theorem addLL {O T : Cs} {a b : List D} (h : a.length + b.length ≤ 1000000) : binU O false .add (.d (.list a)) (.d (.list b)) T = .ok (.d (.list (a ++ b))) T := by
  show (if Y.sizeOk ((a.map U.d).length + (b.map U.d).length) then mkL O false (a.map U.d ++ b.map U.d) T else .fail) = _
  rw [if_pos (by simp [Y.sizeOk]; omega)]
  show mkL O false (a.map U.d ++ b.map U.d) T = _
  rw [← List.map_append]
  unfold mkL
  simp [allD_map]
theorem addTT {O T : Cs} {a b : List D} (h : a.length + b.length ≤ 1000000) : binU O false .add (.d (.tuple a)) (.d (.tuple b)) T = .ok (.d (.tuple (a ++ b))) T := by
  show (if Y.sizeOk ((a.map U.d).length + (b.map U.d).length) then R.ok (mkT (a.map U.d ++ b.map U.d)) T else .fail) = _
  rw [if_pos (by simp [Y.sizeOk]; omega), ← List.map_append]
  unfold mkT
  simp [allD_map]
theorem fm_nD (g : Nat → Bool) (l : List Nat) : ((nD l).map U.d).filterMap (fun u => match u with
    | .d (.int e) => if g e.toNat = true then some u else none
    | _ => none) = (nD (l.filter g)).map .d := by
  unfold nD nI
  rw [List.filterMap_map]
  induction l with
  | nil => rfl
  | cons a l ih =>
    by_cases h : g a = true
    · simp [h] at ih ⊢
      exact ih
    · simp [h] at ih ⊢
      exact ih
theorem ex_dec (F : List Nat) (j : Nat) : decide (∃ f ∈ F, ((f : Nat) : Int) = ((j : Nat) : Int)) = decide (j ∈ F) := by
  rw [decide_eq_decide]
  constructor
  · rintro ⟨f, hf, e⟩
    have : f = j := by omega
    subst this; exact hf
  · intro h; exact ⟨j, h, rfl⟩
@[simp] theorem biU_stp (O T : Cs) (l : Bool) (lo : Option Int) (k : Int) (us : List U) : biU O l (.stp lo k) us T = one us (stpB O l lo k T) := rfl
theorem stp_int (O T : Cs) (lo : Option Int) (k : Int) (hk : 1 ≤ k) (ns : List Int) : stpB O false lo k T (.d (.list (ns.map .int))) = .ok (.d (.list ((pickS lo k ns).map .int))) T := by
  show (if decide (1 ≤ k) = true then mkL O false (pickS lo k ((ns.map PyData.int).map U.d)) T else .fail) = _
  rw [if_pos (by simpa using hk), pickS_map, pickS_map]
  unfold mkL
  simp [allD_map]
theorem den_binOf {C : Cn} {O T T1 T2 : Cs} {ρ : Rho} {a b : CE} {l : Bool} {o : Op} {x y : U} {r : R U} (ha : den C O ρ a T = .ok x T1) (hb : den C O ρ b T1 = .ok y T2) (h : binU O l o x y T2 = r) : den C O ρ (.bin l o a b) T = r := by
  rw [den_bin, ha, R.bind_ok, hb, R.bind_ok, h]
theorem getC_in {O : Cs} {i : Nat} {c : Cell} (h : O[i]? = some c) (T : Cs) : getC O T i = some c := by
  unfold getC
  rw [if_pos (List.getElem?_eq_some_iff.mp h).1, h]
theorem isin_dct {O T : Cs} {r : Nat} {kvs : List (Ky × D)} (h : getC O T r = some (.dct kvs)) (d e : Int) : cmpU O .isin (.d (.tuple [.int d, .int e])) (.ref r) T = some (lookK kvs [.inl d, .inl e]).isSome := by
  show cmpU.isinU O (.d (.tuple [.int d, .int e])) (.ref r) T = _
  unfold cmpU.isinU dictOf
  simp only [h]
  have : keyU (.d (.tuple [.int d, .int e])) = some [.inl d, .inl e] := rfl
  simp only [this, lookK_d]
  cases lookK kvs [.inl d, .inl e] <;> rfl
theorem seti_dct {O T : Cs} {k : Nat} {kvs : List (Ky × D)} (h : T[k]? = some (.dct kvs)) (hl : kvs.length ≤ 1000000) (d e : Int) (v : D) : setiU O (.ref (O.length + k)) (.d (.tuple [.int d, .int e])) (.d v) T = .ok (.d .none) (T.set k (.dct (putK kvs [.inl d, .inl e] v))) := by
  unfold setiU
  have hk : keyU (.d (.tuple [.int d, .int e])) = some [.inl d, .inl e] := rfl
  have hlt := (List.getElem?_eq_some_iff.mp h).1
  simp only [getC_k, h, hk]
  rw [if_pos (by simpa [Y.sizeOk] using hl), setC_k, if_pos hlt]
theorem fm_map (g : Nat → Bool) (h : Nat → Nat) (n : Nat) : (rngU 0 n 1).filterMap (fun u => match u with
    | .d (.int e) => if g e.toNat = true then some (U.d (.int ((h e.toNat : Nat) : Int))) else none
    | _ => none) = (nD (((List.range n).filter g).map h)).map .d := by
  unfold rngU nD nI
  rw [List.filterMap_map]
  generalize List.range n = l
  induction l with
  | nil => rfl
  | cons a l ih =>
    by_cases hh : g a = true
    · simp [hh] at ih ⊢
      exact ih
    · simp [hh] at ih ⊢
      exact ih
@[simp] theorem asgT_lp (O T : Cs) (ts : Tgs) (u : U) (ρ : Rho) : asgT O T (.lp ts) u ρ = match seqL O T u with
    | some us => asgTs O T ts us ρ
    | none => none := by rw [asgT] <;> rfl
theorem keys_ok {C : Cn} {O T T1 : Cs} {ρ : Rho} {a : CE} {k : Nat} {kvs : List (Ky × D)} (h : den C O ρ a T = .ok (.ref (O.length + k)) T1) (hk : T1[k]? = some (.dct kvs)) : denI C O ρ (.keys a) T = .ok ⟨kvs.map fun p => .d (keyD p.1), none, T1.set k .dead⟩ (T1.set k .dead) := by
  have hlt := (List.getElem?_eq_some_iff.mp hk).1
  rw [denI, h, R.bind_ok]
  have e : dictOf O T1 (.ref (O.length + k)) = some (kvs.map fun p => (p.1, .d p.2)) := by
    unfold dictOf
    simp only [getC_k, hk]
  simp only [e, setC_k, if_pos hlt, R.bind_ok, List.map_map]
  rfl
end Y

set_option Elab.async false
set_option linter.all false
set_option maxRecDepth 100000
set_option maxHeartbeats 4000000
namespace Y
open PySem
def turnedB : CB := (.cons (.asg (.nm 2) (.bin true .mul (.lst false (.cons (.c (.int 0)) .nil)) (.v 1)))
 (.cons (.for_ (.tp (.cons (.nm 3) (.cons (.nm 4) .nil))) (.enumT (.v 0)) (.cons (.for_ (.nm 5) (.rng1 (.v 1)) (.cons (.seti (.v 2) (.v 5) (.bin false .bor (.ix (.v 2) (.v 5)) (.bin false .shl (.bin false .band (.bin false .shr (.v 4) (.v 5)) (.c (.int 1))) (.v 3))))
   .nil))
  .nil))
 (.cons (.ret (.bi false .tuple (.cons (.v 2) .nil)))
 .nil)))
def weightB : CB := (.cons (.ret (.ix (.tup (.cons (.c (.int 1)) (.cons (.c (.int 2)) (.cons (.c (.int 4)) (.cons (.c (.int 8)) (.cons (.c (.int 16)) (.cons (.c (.int 32)) .nil))))))) (.v 0)))
 .nil)
/-- the facts of a row -/
def row (g : Nat → Bool) : List Nat := (List.range 6).filter g
def wt (l : List Nat) : Nat := (l.map (2 ^ ·)).sum
def gm (g : Nat → Bool) : Nat := wt (row g)
theorem gm_eq (g : Nat → Bool) : gm g = (g 0).toNat + (g 1).toNat * 2 + (g 2).toNat * 4 + (g 3).toNat * 8 + (g 4).toNat * 16 + (g 5).toNat * 32 := by
  unfold gm row wt
  rw [show List.range 6 = [0, 1, 2, 3, 4, 5] from rfl]
  simp only [List.filter_cons, List.filter_nil]
  cases g 0 <;> cases g 1 <;> cases g 2 <;> cases g 3 <;> cases g 4 <;> cases g 5 <;> rfl
theorem gm_lt (g : Nat → Bool) : gm g < 64 := by
  rw [gm_eq]
  cases g 0 <;> cases g 1 <;> cases g 2 <;> cases g 3 <;> cases g 4 <;> cases g 5 <;> decide
theorem gm_bit (g : Nat → Bool) (j : Nat) : (gm g).testBit j = (decide (j < 6) && g j) := by
  by_cases hj : j < 6
  · rw [gm_eq]
    have : j = 0 ∨ j = 1 ∨ j = 2 ∨ j = 3 ∨ j = 4 ∨ j = 5 := by omega
    rcases this with rfl | rfl | rfl | rfl | rfl | rfl <;> cases g 0 <;> cases g 1 <;> cases g 2 <;> cases g 3 <;> cases g 4 <;> cases g 5 <;> rfl
  · rw [Nat.testBit_lt_two_pow (Nat.lt_of_lt_of_le (gm_lt g) (by show 2 ^ 6 ≤ 2 ^ j; exact Nat.pow_le_pow_right (by decide) (by omega)))]
    simp [hj]
theorem nD_gt {l : List Nat} {i : Nat} {d : D} (h : (nD l)[i]? = some d) : ∃ x : Nat, l[i]? = some x ∧ d = .int (x : Int) := by
  simp only [nD, nI, List.map_map, List.getElem?_map, Option.map_eq_some_iff] at h
  obtain ⟨x, h1, rfl⟩ := h
  exact ⟨x, h1, rfl⟩
theorem w6 {x : Nat} (h : x < 6) : L2.atI ([.int 1, .int 2, .int 4, .int 8, .int 16, .int 32] : List D) (x : Int) = some (.int ((2 ^ x : Nat) : Int)) := by
  rw [atI_nat _ _ (by omega) (by simp; omega)]
  have : x = 0 ∨ x = 1 ∨ x = 2 ∨ x = 3 ∨ x = 4 ∨ x = 5 := by omega
  rcases this with rfl | rfl | rfl | rfl | rfl | rfl <;> rfl
theorem p2 {x : Nat} (h : x < 6) : 0 < ((2 ^ x : Nat) : Int) ∧ ((2 ^ x : Nat) : Int) < 1000000000000000000000000000000000000000000000000000000000000 := by
  have : x = 0 ∨ x = 1 ∨ x = 2 ∨ x = 3 ∨ x = 4 ∨ x = 5 := by omega
  rcases this with rfl | rfl | rfl | rfl | rfl | rfl <;> decide
theorem row_len (g : Nat → Bool) : (row g).length ≤ 6 := Nat.le_trans (List.length_filter_le _ _) (by simp)
theorem row_mem {g : Nat → Bool} {e : Nat} : e ∈ row g ↔ e < 6 ∧ g e = true := by unfold row; simp
def pm (tb : List Nat) (i o : Nat) : Nat := gm fun k => decide (k < i) && (tb.getD k 0).testBit o
theorem pm_zero (tb : List Nat) (o : Nat) : pm tb 0 o = 0 := by
  unfold pm
  have : (fun k => decide (k < 0) && (tb.getD k 0).testBit o) = fun _ => false := by funext k; simp
  rw [this]
  rfl
theorem pm_step (tb : List Nat) {i o r : Nat} (h : tb[i]? = some r) (hi : i < 6) : pm tb i o ||| ((r.testBit o).toNat <<< i) = pm tb (i + 1) o := by
  apply Nat.eq_of_testBit_eq
  intro j
  have hr : tb.getD i 0 = r := by rw [List.getD_eq_getElem?_getD, h] <;> rfl
  unfold pm
  rw [Nat.testBit_or, gm_bit, gm_bit, Nat.testBit_shiftLeft]
  by_cases hj : j < 6
  · by_cases hji : j = i
    · subst hji
      rw [hr]
      cases r.testBit o <;> simp [hj]
    · by_cases hl : j < i
      · have h1 : ¬ i ≤ j := by omega
        have h2 : j < i + 1 := by omega
        simp [hl, h1, h2]
      · have h1 : ¬ j < i + 1 := by omega
        have h2 : (r.testBit o).toNat.testBit (j - i) = false := by
          apply Nat.testBit_lt_two_pow
          have : (r.testBit o).toNat ≤ 1 := by cases r.testBit o <;> decide
          have : 2 ^ 1 ≤ 2 ^ (j - i) := Nat.pow_le_pow_right (by decide) (by omega)
          omega
        simp [hl, h1, h2]
  · have h2 : (r.testBit o).toNat.testBit (j - i) = false := by
      apply Nat.testBit_lt_two_pow
      have : (r.testBit o).toNat ≤ 1 := by cases r.testBit o <;> decide
      have : 2 ^ 1 ≤ 2 ^ (j - i) := Nat.pow_le_pow_right (by decide) (by omega)
      omega
    simp [hj, h2]
def tr (tb : List Nat) (m : Nat) : List Nat := (List.range m).map fun o => gm fun i => (tb.getD i 0).testBit o
def half (tb : List Nat) (m i j : Nat) : List Nat := (List.range m).map fun o => if o < j then pm tb (i + 1) o else pm tb i o
theorem half_zero (tb : List Nat) (m i : Nat) : half tb m i 0 = (List.range m).map fun o => pm tb i o := by
  unfold half
  refine List.map_congr_left fun o _ => ?_
  simp
theorem half_full (tb : List Nat) (m i : Nat) : half tb m i m = half tb m (i + 1) 0 := by
  rw [half_zero]
  unfold half
  refine List.map_congr_left fun o ho => ?_
  rw [List.mem_range] at ho
  simp [ho]
theorem half_end (tb : List Nat) (m : Nat) (h : tb.length ≤ 6) : half tb m tb.length 0 = tr tb m := by
  rw [half_zero]
  unfold tr pm
  refine List.map_congr_left fun o _ => ?_
  congr 1
  funext k
  by_cases hk : k < tb.length
  · simp [hk]
  · rw [List.getD_eq_getElem?_getD, List.getElem?_eq_none (by omega)]
    simp [hk]
theorem half_set (tb : List Nat) {m i j : Nat} (hj : j < m) : (half tb m i j).set j (pm tb (i + 1) j) = half tb m i (j + 1) := by
  apply List.ext_getElem?
  intro k
  by_cases hk : k = j
  · subst hk
    rw [List.getElem?_set_self (by simp [half]; omega)]
    unfold half
    rw [List.getElem?_map, List.getElem?_range hj]
    simp
  · rw [List.getElem?_set_ne (Ne.symm hk)]
    unfold half
    rw [List.getElem?_map, List.getElem?_map]
    by_cases hkm : k < m
    · rw [List.getElem?_range hkm]
      simp only [Option.map_some]
      by_cases h1 : k < j
      · have : k < j + 1 := by omega
        simp [h1, this]
      · have : ¬ k < j + 1 := by omega
        simp [h1, this]
    · rw [List.getElem?_eq_none (by simp; omega)] <;> rfl
theorem half_get (tb : List Nat) {m i j : Nat} (hj : j < m) : (half tb m i j)[j]? = some (pm tb i j) := by
  unfold half
  rw [List.getElem?_map, List.getElem?_range hj]
  simp
theorem val_ok (tb : List Nat) {i j r : Nat} (h : tb[i]? = some r) (hi : i < 6) : Builtin.bitOr ((pm tb i j : Nat) : Int) (Builtin.bitAnd ((r : Int) / 2 ^ j) 1 * 2 ^ i) = ((pm tb (i + 1) j : Nat) : Int) := by
  have e1 : Builtin.bitAnd ((r : Int) / 2 ^ j) 1 = (((r.testBit j).toNat : Nat) : Int) := by
    have q := bit_iff r j
    rw [PyProof.Rows.bitAnd_m1] at q ⊢
    cases hb : r.testBit j with
    | true => rw [q.mpr hb] <;> rfl
    | false =>
      have : ¬ (r : Int) / 2 ^ j % 2 = 1 := fun e => by rw [q.mp e] at hb; cases hb
      have h2 : (r : Int) / 2 ^ j % 2 = 0 ∨ (r : Int) / 2 ^ j % 2 = 1 := by omega
      rcases h2 with h2 | h2
      · rw [h2] <;> rfl
      · exact absurd h2 this
  have e2 : (((r.testBit j).toNat : Nat) : Int) * 2 ^ i = (((r.testBit j).toNat <<< i : Nat) : Int) := by
    rw [Nat.shiftLeft_eq]
    simp
  rw [e1, e2, bitOr_n, pm_step tb h hi]
theorem nD_set (l : List Nat) (j x : Nat) : (nD l).set j (.int (x : Int)) = nD (l.set j x) := by
  simp [nD, nI, List.map_set]
theorem seti_l {O : Cs} {ds : List D} {j : Int} {v : D} (h0 : 0 ≤ j) (h1 : j < ds.length) : setiU O (.ref O.length) (.d (.int j)) (.d v) [.lst ds] = .ok (.d .none) [.lst (ds.set j.toNat v)] := by
  unfold setiU
  have : L2.ixN ds.length j = some j.toNat := by
    unfold L2.ixN
    simp [h0, h1]
  simp [this]
theorem turned_run {G : Pg} {jt : Nat} (hG : G.defs jt = some ⟨2, 6, turnedB⟩) (n : Nat) (O : Cs) (tb : List Nat) (hl : tb.length ≤ 6) (z : Int) (h0 : 0 ≤ z) (h6 : z ≤ 6) : ∃ T', Y.run G (n + 1) O jt [.d (.tuple (nD tb)), .d (.int z)] [] = .ok (.d (.tuple (nD (tr tb z.toNat)))) T' := by
  suffices hg : Gv (Y.run G (n + 1) O jt [.d (.tuple (nD tb)), .d (.int z)] []) fun u T' => u = .d (.tuple (nD (tr tb z.toNat))) by
    obtain ⟨u, T', e, rfl⟩ := hg.ex
    exact ⟨T', e⟩
  refine run_wp hG rfl ?_
  obtain ⟨m, hm⟩ : ∃ m : Nat, m = z.toNat := ⟨_, rfl⟩
  have hro : rngOk 0 z = true := by simp [rngOk]; omega
  have hmul : binU O true .mul (.d (.list [.int 0])) (.d (.int z)) [] = .ok (.ref O.length) [.lst (nD (half tb m 0 0))] := by
    show (if (decide (0 ≤ z) && decide (z ≤ 1000000) && Y.sizeOk (([U.d (.int 0)] : List U).length * z.toNat)) = true then mkL O true (List.replicate z.toNat [U.d (.int 0)]).flatten [] else .fail) = _
    rw [if_pos (by simp [Y.sizeOk]; omega), List.flatten_replicate_singleton, half_zero]
    have e : List.replicate z.toNat (U.d (.int 0)) = (nD ((List.range m).map fun o => pm tb 0 o)).map .d := by
      rw [← hm]
      apply List.ext_getElem
      · simp [nD, nI]
      · intro i h1 h2
        simp [pm_zero, nD, nI]
    rw [e]
    unfold mkL
    simp [allD_map]
  rw [← hm]
  simp only [turnedB]
  simp [hmul]
  refine wp_for ⟨tb.zipIdx.map fun p => .d (.tuple [.int (p.2 : Nat), .int (p.1 : Nat)]), none, [.lst (nD (half tb m 0 0))]⟩ [.lst (nD (half tb m 0 0))] (fun i ρ T => T = [.lst (nD (half tb m i 0))] ∧ ∃ x y w, ρ = [some (.d (.tuple (nD tb))), some (.d (.int z)), some (.ref O.length), x, y, w]) ?_ ?_ (by simp) ?_ ?_
  · simp [nD, nI, List.zipIdx_map]
  · exact ⟨rfl, none, none, none, rfl⟩
  · rintro i u hu ρ T ⟨rfl, x, y, w, rfl⟩
    simp only [List.getElem?_map, Option.map_eq_some_iff] at hu
    obtain ⟨⟨r, k⟩, hp, rfl⟩ := hu
    have hr : tb[i]? = some r ∧ k = i := by
      rw [List.getElem?_zipIdx, Option.map_eq_some_iff] at hp
      obtain ⟨a, ha, e⟩ := hp
      cases e
      exact ⟨ha, by simp⟩
    obtain ⟨hr, rfl⟩ := hr
    have hi6 : k < 6 := by
      have := (List.getElem?_eq_some_iff.mp hr).1
      omega
    obtain ⟨rI, hrI⟩ : ∃ rI : Int, rI = (r : Int) := ⟨_, rfl⟩
    obtain ⟨kI, hkI⟩ : ∃ kI : Int, kI = (k : Int) := ⟨_, rfl⟩
    have hkt : kI.toNat = k := by omega
    simp only
    rw [← hrI, ← hkI]
    refine ⟨_, rfl, ?_⟩
    simp
    refine wp_for ⟨rngU 0 m 1, none, [.lst (nD (half tb m k 0))]⟩ [.lst (nD (half tb m k 0))] (fun j ρ T => T = [.lst (nD (half tb m k j))] ∧ ∃ w, ρ = [some (.d (.tuple (nD tb))), some (.d (.int z)), some (.ref O.length), some (.d (.int kI)), some (.d (.int rI)), w]) ?_ ?_ (by simp) ?_ ?_
    · simp [hro, hm]
    · exact ⟨rfl, _, rfl⟩
    · rintro j u hu ρ T ⟨rfl, w, rfl⟩
      obtain ⟨hj, rfl⟩ := rngU_get hu
      obtain ⟨jI, hjI⟩ : ∃ jI : Int, jI = (j : Int) := ⟨_, rfl⟩
      have hw0 : (0 + ((j : Nat) : Int) * 1) = jI := by omega
      rw [hw0]
      refine ⟨_, rfl, ?_⟩
      have hlen : (nD (half tb m k j)).length = m := by simp [nD, nI, half]
      have hjt : jI.toNat = j := by omega
      have hv := val_ok tb (j := j) hr hi6
      rw [← hrI] at hv
      obtain ⟨pI, hpI⟩ : ∃ pI : Int, pI = ((pm tb k j : Nat) : Int) := ⟨_, rfl⟩
      obtain ⟨qI, hqI⟩ : ∃ qI : Int, qI = ((pm tb (k + 1) j : Nat) : Int) := ⟨_, rfl⟩
      rw [← hpI, ← hqI] at hv
      have hx : ixU O (.ref O.length) (.d (.int jI)) [.lst (nD (half tb m k j))] = some (.d (.int pI)) := by
        show (match getC O [.lst (nD (half tb m k j))] O.length with
          | some (.lst ds) => (L2.atI ds jI).map U.d
          | some (.lstU us) => L2.atI us jI
          | _ => none) = _
        simp only [getC_0, List.getElem?_cons_zero]
        rw [atI_nat _ _ (by omega) (by omega), hjt]
        have := half_get tb (i := k) hj
        simp [nD, nI, this, hpI]
      have hs : setiU O (.ref O.length) (.d (.int jI)) (.d (.int qI)) [.lst (nD (half tb m k j))] = .ok (.d .none) [.lst (nD (half tb m k (j + 1)))] := by
        rw [seti_l (by omega) (by omega), hjt, hqI, nD_set, half_set tb hj]
      have hb1 : Builtin.bitAnd (rI / 2 ^ j) 1 < 18446744073709551616 ∧ -18446744073709551616 < Builtin.bitAnd (rI / 2 ^ j) 1 := by
        rw [PyProof.Rows.bitAnd_m1]
        omega
      have hj0 : 0 ≤ jI := by omega
      have hk0 : 0 ≤ kI ∧ kI ≤ 1000 := by omega
      generalize nD (half tb m k (j + 1)) = R2 at hs
      generalize nD (half tb m k j) = R1 at hs hx
      simp [hx, hj0, hk0, hb1, hjt, hkt, hv, hs]
    · rintro ρ T ⟨rfl, w, rfl⟩
      refine ⟨?_, _, _, _, rfl⟩
      simp only [rngU_len]
      rw [half_full]
  · rintro ρ T ⟨rfl, x, y, w, rfl⟩
    have : (tb.zipIdx.map fun p => U.d (.tuple [.int (p.2 : Nat), .int (p.1 : Nat)])).length = tb.length := by simp
    simp only [this]
    rw [half_end tb m hl]
    simp [seqL, mkT]
theorem weight_run {G : Pg} {jw : Nat} (hG : G.defs jw = some ⟨1, 1, weightB⟩) (n : Nat) (O : Cs) (e : Nat) (he : e < 6) : Y.run G (n + 1) O jw [.d (.int (e : Int))] [] = .ok (.d (.int ((2 ^ e : Nat) : Int))) [] := by
  have hw := w6 he
  obtain ⟨v, hv⟩ : ∃ v : Int, v = ((2 ^ e : Nat) : Int) := ⟨_, rfl⟩
  obtain ⟨x, hx⟩ : ∃ x : Int, x = (e : Int) := ⟨_, rfl⟩
  rw [← hv, ← hx] at hw ⊢
  refine Gv.eq (run_wp hG rfl ?_)
  simp [weightB, hw]
def lawTurnedB (jw : Nat) : CB := (.cons (.asg (.nm 2) (.lst true .nil))
 (.cons (.for_ (.nm 3) (.rng1 (.v 1)) (.cons (.asg (.nm 4) (.comp false (.v 5) (.nm 5) (.rng1 (.bi false .len (.cons (.v 0) .nil))) (.cmp .eq (.bin false .mod (.bin false .fdiv (.ix (.v 0) (.v 5)) (.call false jw (.cons (.v 3) .nil) [])) (.c (.int 2))) (.c (.int 1))) [5]))
  (.cons (.ex (.mt false .append (.v 2) (.cons (.bi false .sum (.cons (.comp false (.call false jw (.cons (.v 5) .nil) []) (.nm 5) (.lst (.v 4)) (.c (.bool true)) [5]) .nil)) .nil)))
  .nil)))
 (.cons (.ret (.bi false .tuple (.cons (.v 2) .nil)))
 .nil)))
theorem rowt (g : Nat → Bool) (t : Nat) (h : t ≤ 6) : wt ((List.range t).filter g) = gm fun e => decide (e < t) && g e := by
  have : t = 0 ∨ t = 1 ∨ t = 2 ∨ t = 3 ∨ t = 4 ∨ t = 5 ∨ t = 6 := by omega
  rcases this with rfl | rfl | rfl | rfl | rfl | rfl | rfl <;> rfl
theorem wt_tr (tb : List Nat) (e : Nat) (hl : tb.length ≤ 6) : wt ((List.range tb.length).filter fun d => (tb.getD d 0).testBit e) = gm fun i => (tb.getD i 0).testBit e := by
  rw [rowt _ _ hl]
  congr 1
  funext i
  by_cases h : i < tb.length
  · simp [h]
  · have : tb.getD i 0 = 0 := by simp [List.getD, List.getElem?_eq_none (by omega : tb.length ≤ i)]
    rw [this]
    simp
theorem tr_len (tb : List Nat) (m : Nat) : (tr tb m).length = m := by simp [tr]
section
variable {G : Pg} {jl jw : Nat}
theorem lt_test {C : Cn} {O T : Cs} (jw : Nat) (L : List D) (eI jI y v : Int) (x1 x2 x4 : Option U) (hat : L2.atI L jI = some (.int y)) (hc : callP C O jw [.d (.int eI)] T = .ok (.d (.int v)) T) (hp : 0 < v ∧ v < 1000000000000000000000000000000000000000000000000000000000000) : den C O [some (.d (.tuple L)), x1, x2, some (.d (.int eI)), x4, some (.d (.int jI))] (.cmp .eq (.bin false .mod (.bin false .fdiv (.ix (.v 0) (.v 5)) (.call false jw (.cons (.v 3) .nil) [])) (.c (.int 2))) (.c (.int 1))) T = .ok (.d (.bool (decide (y / v % 2 = 1)))) T := by
  simp [hat, hc, hp]
theorem rng1_ok {C : Cn} {O T : Cs} {ρ : Rho} {a : CE} {z : Int} {n : Nat} (h : den C O ρ a T = .ok (.d (.int z)) T) (h0 : rngOk 0 z = true) (hn : z.toNat = n) : denI C O ρ (.rng1 a) T = .ok ⟨rngU 0 n 1, none, T⟩ T := by
  rw [denI_rng1, h]
  simp [h0, hn]
theorem lt_ones (hw : G.defs jw = some ⟨1, 1, weightB⟩) (n : Nat) (O T : Cs) (tb : List Nat) (hl : tb.length ≤ 6) (e : Nat) (he : e < 6) (x1 x2 x4 x5 : Option U) : den (cn G (n + 1)) O [some (.d (.tuple (nD tb))), x1, x2, some (.d (.int (e : Int))), x4, x5] (.comp false (.v 5) (.nm 5) (.rng1 (.bi false .len (.cons (.v 0) .nil))) (.cmp .eq (.bin false .mod (.bin false .fdiv (.ix (.v 0) (.v 5)) (.call false jw (.cons (.v 3) .nil) [])) (.c (.int 2))) (.c (.int 1))) [5]) T = .ok (.d (.list (nD ((List.range tb.length).filter fun d => (tb.getD d 0).testBit e)))) T := by
  have hnl : (nD tb).length = tb.length := by simp [nD, nI]
  have hro : rngOk 0 (tb.length : Int) = true := by simp [rngOk]; omega
  refine comp_d (us := rngU 0 tb.length 1) (w := none) (tt := T) (fun u => match u with | .d (.int d) => if (fun d => (tb.getD d 0).testBit e) d.toNat = true then some u else none | _ => none) ?_ (by simp) ?_ (by simp [rngU]; omega) ?_
  · exact rng1_ok (z := (tb.length : Int)) (by simp [hnl]) hro (by simp)
  · intro u hu acc
    simp only [rngU, List.mem_map, List.mem_range] at hu
    obtain ⟨j, hj, rfl⟩ := hu
    have hw0 : (0 + ((j : Nat) : Int) * 1) = ((j : Nat) : Int) := by omega
    rw [hw0]
    refine turn_flt (y := .d (.int (j : Int))) (asgT_nm _ _ _ _ _) ?_ ?_
    · have hc := callP_r O (T ++ [Cell.lstU acc]) (weight_run hw n (O ++ (T ++ [Cell.lstU acc])) e he)
      have hp := p2 he
      have hat : L2.atI (nD tb) (j : Int) = some (.int ((tb.getD j 0 : Nat) : Int)) := by
        rw [atI_nat _ _ (by omega) (by rw [hnl]; omega)]
        simp [nD, nI, List.getElem?_eq_getElem hj, List.getD]
      have hb : (decide (((tb.getD j 0 : Nat) : Int) / ((2 ^ e : Nat) : Int) % 2 = 1)) = (tb.getD j 0).testBit e := by
        rw [Nat.testBit_eq_decide_div_mod_eq, decide_eq_decide]
        omega
      simp only [Int.toNat_natCast]
      rw [← hb]
      have hT := lt_test (C := cn G (n + 1)) (O := O) (T := T ++ [Cell.lstU acc]) jw (nD tb) (e : Int) (j : Int) ((tb.getD j 0 : Nat) : Int) ((2 ^ e : Nat) : Int) x1 x2 x4 hat hc hp
      clear hc hat hp
      generalize (decide (((tb.getD j 0 : Nat) : Int) / ((2 ^ e : Nat) : Int) % 2 = 1)) = bb at hT ⊢
      simp only [wipeR, List.set_cons_succ, List.set_cons_zero]
      exact hT
    · simp [wipeR]
  · exact fm_row (fun d => (tb.getD d 0).testBit e) _
theorem lt_wts (hw : G.defs jw = some ⟨1, 1, weightB⟩) (n : Nat) (O T : Cs) (ones : List Nat) (ho : ∀ x ∈ ones, x < 6) (hl : ones.length ≤ 6) (x0 x1 x2 x3 x5 : Option U) : den (cn G (n + 1)) O [x0, x1, x2, x3, some (.d (.list (nD ones))), x5] (.comp false (.call false jw (.cons (.v 5) .nil) []) (.nm 5) (.lst (.v 4)) (.c (.bool true)) [5]) T = .ok (.d (.list (nD (ones.map (2 ^ ·))))) T := by
  have hnl : (nD ones).length = ones.length := by simp [nD, nI]
  refine comp_m (us := (nD ones).map .d) (w := none) (tt := T) ?_ (by simp) (by simp [nD, nI]) ?_ (by simp [hnl]; omega)
  · simp
  · intro i u d hu hd acc
    rw [List.getElem?_map, Option.map_eq_some_iff] at hu
    obtain ⟨a, ha, rfl⟩ := hu
    obtain ⟨x, hx, rfl⟩ := nD_gt ha
    obtain ⟨y, hy, rfl⟩ := nD_gt hd
    rw [List.getElem?_map, hx] at hy
    simp only [Option.map_some, Option.some.injEq] at hy
    subst hy
    refine turn_all (asgT_nm _ _ _ _ _) ?_
    have hc := callP_r O (T ++ [Cell.lstU acc]) (weight_run hw n (O ++ (T ++ [Cell.lstU acc])) x (ho x (List.mem_of_getElem? hx)))
    obtain ⟨v, hv⟩ : ∃ v : Int, v = ((2 ^ x : Nat) : Int) := ⟨_, rfl⟩
    rw [← hv] at hc ⊢
    simp [wipeR, hc]
theorem lawturned_run (hG : G.defs jl = some ⟨2, 6, lawTurnedB jw⟩) (hw : G.defs jw = some ⟨1, 1, weightB⟩) (n : Nat) (O : Cs) (tb : List Nat) (hl : tb.length ≤ 6) (z : Int) (h0 : 0 ≤ z) (h6 : z ≤ 6) : ∃ T', Y.run G (n + 2) O jl [.d (.tuple (nD tb)), .d (.int z)] [] = .ok (.d (.tuple (nD (tr tb z.toNat)))) T' := by
  suffices hg : Gv (Y.run G (n + 2) O jl [.d (.tuple (nD tb)), .d (.int z)] []) fun u T' => u = .d (.tuple (nD (tr tb z.toNat))) by
    obtain ⟨u, T', e, rfl⟩ := hg.ex
    exact ⟨T', e⟩
  refine run_wp hG rfl ?_
  obtain ⟨m, hm⟩ : ∃ m : Nat, m = z.toNat := ⟨_, rfl⟩
  have hro : rngOk 0 z = true := by simp [rngOk]; omega
  have hones := fun T e he x1 x2 x4 x5 => lt_ones hw n O T tb hl e he x1 x2 x4 x5
  have hwts := fun T ones ho hl x0 x1 x2 x3 x5 => lt_wts hw n O T ones ho hl x0 x1 x2 x3 x5
  rw [← hm]
  have hm6 : m ≤ 6 := by omega
  simp only [lawTurnedB]
  generalize hA : (CE.comp false (.v 5) (.nm 5) (.rng1 (.bi false .len (.cons (.v 0) .nil))) (.cmp .eq (.bin false .mod (.bin false .fdiv (.ix (.v 0) (.v 5)) (.call false jw (.cons (.v 3) .nil) [])) (.c (.int 2))) (.c (.int 1))) [5]) = A at hones ⊢
  generalize hB : (CE.comp false (.call false jw (.cons (.v 5) .nil) []) (.nm 5) (.lst (.v 4)) (.c (.bool true)) [5]) = B at hwts ⊢
  generalize cn G (n + 1) = C at hones hwts ⊢
  simp
  refine wp_for ⟨rngU 0 m 1, none, [.lst (nD ((tr tb m).take 0))]⟩ [.lst (nD ((tr tb m).take 0))] (fun i ρ T => T = [.lst (nD ((tr tb m).take i))] ∧ ∃ x4 x3 x5, ρ = [some (.d (.tuple (nD tb))), some (.d (.int z)), some (.ref O.length), x3, x4, x5]) ?_ ?_ (by simp) ?_ ?_
  · simp [hro, hm, nD, nI]
  · exact ⟨rfl, none, none, none, rfl⟩
  · rintro i u hu ρ T ⟨rfl, x4, x3, x5, rfl⟩
    obtain ⟨hi, rfl⟩ := rngU_get hu
    have hw0 : (0 + ((i : Nat) : Int) * 1) = ((i : Nat) : Int) := by omega
    rw [hw0]
    refine ⟨_, rfl, ?_⟩
    have hi6 : i < 6 := by omega
    have hsum := sum_nD O [.lst (nD ((tr tb m).take i))] (((List.range tb.length).filter fun d => (tb.getD d 0).testBit i).map (2 ^ ·))
    have hwt : (((List.range tb.length).filter fun d => (tb.getD d 0).testBit i).map (2 ^ ·)).sum = gm fun k => (tb.getD k 0).testBit i := wt_tr tb i hl
    rw [hwt] at hsum
    have hst : (tr tb m).take (i + 1) = (tr tb m).take i ++ [gm fun k => (tb.getD k 0).testBit i] := by
      rw [List.take_add_one]
      congr 1
      unfold tr
      rw [List.getElem?_map, List.getElem?_range hi]
      rfl
    have hw1 := hwts [.lst (nD ((tr tb m).take i))] ((List.range tb.length).filter fun d => (tb.getD d 0).testBit i) (fun x hx => by
      have := (List.mem_filter.mp hx).1
      rw [List.mem_range] at this
      omega) (Nat.le_trans (List.length_filter_le _ _) (by simpa using hl)) (some (.d (.tuple (nD tb)))) (some (.d (.int z))) (some (.ref O.length)) (some (.d (.int (i : Int)))) x5
    have hle : (nD ((tr tb m).take i)).length ≤ 1000000 := by
      have : ((tr tb m).take i).length ≤ i := List.length_take_le _ _
      simp only [nD, nI, List.length_map]
      omega
    have hon := hones [.lst (nD ((tr tb m).take i))] i hi6 (some (.d (.int z))) (some (.ref O.length)) x4 x5
    rw [hst, nD_app]
    generalize (List.range tb.length).filter (fun d => (tb.getD d 0).testBit i) = ones at hon hw1 hsum hwt
    generalize nD (ones.map (2 ^ ·)) = WW at hw1 hsum
    generalize hgm : (gm fun k => (tb.getD k 0).testBit i) = w at hsum ⊢
    generalize nD ((tr tb m).take i) = R at hw1 hon hsum hle ⊢
    have e1 : nD [w] = [.int (w : Int)] := rfl
    rw [e1]
    generalize (w : Int) = wI at hsum ⊢
    generalize (i : Int) = iI at hon hw1 ⊢
    simp [hon, hw1, hsum, hle]
  · rintro ρ T ⟨rfl, x4, x3, x5, rfl⟩
    have : (tr tb m).take m = tr tb m := List.take_of_length_le (by rw [tr_len] <;> omega)
    simp only [rngU_len]
    simp [this, seqL, mkT]
end
/-- turned twice -/
theorem tr_tr (t : List Nat) (n m : Nat) (hn : n ≤ 6) (hm : m ≤ 6) (hl : t.length = n) (hb : ∀ r ∈ t, r < 2 ^ m) : tr (tr t m) n = t := by
  apply List.ext_getElem
  · rw [tr_len, hl]
  · intro i h1 h2
    have hi6 : i < 6 := by omega
    have e : (tr (tr t m) n)[i] = gm fun o => ((tr t m).getD o 0).testBit i := by
      unfold tr
      simp
    rw [e]
    apply Nat.eq_of_testBit_eq
    intro j
    rw [gm_bit]
    by_cases hj : j < m
    · have : (tr t m).getD j 0 = gm fun k => (t.getD k 0).testBit j := by
        unfold tr
        simp [List.getD, hj]
      rw [this, gm_bit]
      have : t.getD i 0 = t[i] := by simp [List.getD, h2]
      simp [hi6, show j < 6 by omega, List.getElem?_eq_getElem h2]
    · have h0 : (tr t m).getD j 0 = 0 := by
        have : m ≤ j := by omega
        simp [List.getD, List.getElem?_eq_none (by rw [tr_len]; exact this : (tr t m).length ≤ j)]
      rw [h0]
      have hlt : t[i] < 2 ^ j := Nat.lt_of_lt_of_le (hb _ (List.getElem_mem _)) (Nat.pow_le_pow_right (by decide) (by omega))
      rw [Nat.testBit_lt_two_pow hlt]
      simp
theorem tr_in (t : List Nat) (n m : Nat) (hl : t.length = n) (hn : n ≤ 6) : ∀ r ∈ tr t m, r < 2 ^ n := by
  intro r hr
  unfold tr at hr
  rw [List.mem_map] at hr
  obtain ⟨o, _, rfl⟩ := hr
  apply Nat.lt_pow_two_of_testBit
  intro j hj
  rw [gm_bit]
  have : t.getD j 0 = 0 := by simp [List.getD, List.getElem?_eq_none (by omega : t.length ≤ j)]
  rw [this]
  simp
end Y

set_option Elab.async false
set_option linter.all false
set_option maxRecDepth 100000
set_option maxHeartbeats 4000000
namespace Y
open PySem
def pickB : CB := (.cons (.asg (.nm 3) (.ix (.lst false (.cons (.c (.int 48271)) (.cons (.c (.int 69621)) (.cons (.c (.int 39373)) (.cons (.c (.int 16807)) (.cons (.c (.int 40692)) (.cons (.c (.int 52774)) (.cons (.c (.int 33614)) .nil)))))))) (.bin false .mod (.v 1) (.c (.int 7))))) (.cons (.asg (.nm 4) (.bin false .add (.bin false .add (.bin false .mul (.bin false .mod (.v 0) (.c (.int 2147483647))) (.v 3)) (.bin false .mul (.c (.int 7919)) (.v 1))) (.c (.int 13)))) (.cons (.ret (.bin false .mod (.bin false .mod (.bin false .mul (.v 4) (.bin false .add (.bin false .mod (.v 4) (.c (.int 104729))) (.c (.int 1)))) (.ix (.lst false (.cons (.c (.int 2147483629)) (.cons (.c (.int 2147483587)) (.cons (.c (.int 2147483579)) .nil)))) (.bin false .mod (.v 1) (.c (.int 3))))) (.v 2))) .nil)))
def tableB (jp : Nat) : CB := (.cons (.asg (.nm 4) (.lst true .nil)) (.cons (.for_ (.nm 5) (.rng1 (.v 2)) (.cons (.asg (.nm 6) (.call false jp (.cons (.v 0) (.cons (.bin false .add (.v 1) (.bin false .mul (.c (.int 2)) (.v 5))) (.cons (.bin false .shl (.c (.int 1)) (.v 3)) .nil))) [])) (.cons (.ite (.cmp .gt (.call false jp (.cons (.v 0) (.cons (.bin false .add (.v 1) (.c (.int 19))) (.cons (.c (.int 3)) .nil))) []) (.c (.int 0))) (.cons (.asg (.nm 6) (.bin false .band (.v 6) (.call false jp (.cons (.v 0) (.cons (.bin false .add (.bin false .add (.v 1) (.bin false .mul (.c (.int 2)) (.v 5))) (.c (.int 1))) (.cons (.bin false .shl (.c (.int 1)) (.v 3)) .nil))) []))) .nil) .nil) (.cons (.ite (.cmp .gt (.call false jp (.cons (.v 0) (.cons (.bin false .add (.v 1) (.c (.int 20))) (.cons (.c (.int 3)) .nil))) []) (.c (.int 0))) (.cons (.asg (.nm 6) (.bin false .bor (.v 6) (.bin false .shl (.c (.int 1)) (.bin false .mod (.v 5) (.v 3))))) .nil) .nil) (.cons (.ex (.mt false .append (.v 4) (.cons (.v 6) .nil))) .nil))))) (.cons (.ret (.bi false .tuple (.cons (.v 4) .nil))) .nil)))
def edgeB (jp jt : Nat) : CB := (.cons (.asg (.tp (.cons (.nm 3) (.cons (.nm 4) .nil))) (.ix (.v 0) (.v 1))) (.cons (.asg (.nm 5) (.lst false (.cons (.bin false .add (.c (.int 1)) (.bin false .mod (.v 2) (.bin false .pow (.c (.int 10)) (.c (.int 18))))) (.cons (.bin false .add (.c (.int 1)) (.call false jp (.cons (.v 2) (.cons (.c (.int 2)) (.cons (.c (.int 9)) .nil))) [])) (.cons (.bin false .sub (.bin false .pow (.c (.int 10)) (.c (.int 18))) (.call false jp (.cons (.v 2) (.cons (.c (.int 8)) (.cons (.c (.int 2)) .nil))) [])) .nil))))) (.cons (.asg (.nm 6) (.ix (.v 5) (.call false jp (.cons (.v 2) (.cons (.c (.int 3)) (.cons (.c (.int 3)) .nil))) []))) (.cons (.asg (.nm 7) (.tup (.cons (.call false jp (.cons (.v 2) (.cons (.c (.int 4)) (.cons (.v 3) .nil))) []) (.cons (.call false jp (.cons (.v 2) (.cons (.c (.int 5)) (.cons (.v 3) .nil))) []) (.cons (.v 6) .nil))))) (.cons (.ite (.cmp .lt (.call false jp (.cons (.v 2) (.cons (.c (.int 6)) (.cons (.c (.int 5)) .nil))) []) (.c (.int 3))) (.cons (.ret (.bin false .add (.bin false .add (.tup (.cons (.c (.str "step")) .nil)) (.v 7)) (.tup (.cons (.call false jt (.cons (.v 2) (.cons (.c (.int 30)) (.cons (.v 4) (.cons (.v 4) .nil)))) []) .nil)))) .nil) .nil) (.cons (.asg (.nm 8) (.call false jp (.cons (.v 2) (.cons (.c (.int 7)) (.cons (.bi false .len (.cons (.v 0) .nil)) .nil))) [])) (.cons (.asg (.nm 9) (.call false jt (.cons (.v 2) (.cons (.c (.int 60)) (.cons (.v 4) (.cons (.ix (.ix (.v 0) (.v 8)) (.c (.int 1))) .nil)))) [])) (.cons (.asg (.nm 10) (.call false jt (.cons (.v 2) (.cons (.c (.int 90)) (.cons (.ix (.ix (.v 0) (.v 8)) (.c (.int 1))) (.cons (.v 4) .nil)))) [])) (.cons (.ret (.bin false .add (.bin false .add (.tup (.cons (.c (.str "call")) .nil)) (.v 7)) (.tup (.cons (.v 8) (.cons (.v 9) (.cons (.v 10) (.cons (.call false jt (.cons (.v 2) (.cons (.c (.int 120)) (.cons (.v 4) (.cons (.v 4) .nil)))) []) .nil))))))) .nil)))))))))
def chartB (jp je : Nat) : CB := (.cons (.asg (.nm 2) (.ix (.lst false (.cons (.tup (.cons (.c (.int 3)) (.cons (.c (.int 4)) (.cons (.c (.int 4)) .nil)))) (.cons (.tup (.cons (.c (.int 6)) (.cons (.c (.int 10)) (.cons (.c (.int 6)) .nil)))) .nil))) (.bi false .int (.cons (.cmp .eq (.call false jp (.cons (.v 1) (.cons (.c (.int 0)) (.cons (.c (.int 6)) .nil))) []) (.c (.int 1))) .nil)))) (.cons (.asg (.nm 3) (.lst true .nil)) (.cons (.for_ (.nm 4) (.rng1 (.bin false .add (.c (.int 1)) (.call false jp (.cons (.v 1) (.cons (.c (.int 1)) (.cons (.ix (.v 2) (.c (.int 0))) .nil))) []))) (.cons (.ex (.mt false .append (.v 3) (.cons (.tup (.cons (.bin false .add (.c (.int 1)) (.call false jp (.cons (.v 1) (.cons (.bin false .add (.c (.int 10)) (.bin false .mul (.c (.int 2)) (.v 4))) (.cons (.ix (.v 2) (.c (.int 1))) .nil))) [])) (.cons (.bin false .add (.c (.int 1)) (.call false jp (.cons (.v 1) (.cons (.bin false .add (.c (.int 11)) (.bin false .mul (.c (.int 2)) (.v 4))) (.cons (.ix (.v 2) (.c (.int 2))) .nil))) [])) .nil))) .nil))) .nil)) (.cons (.asg (.nm 5) (.comp true (.lst true .nil) (.nm 8) (.lst (.v 3)) (.c (.bool true)) [8])) (.cons (.for_ (.tp (.cons (.nm 6) (.cons (.nm 7) .nil))) (.enumL (.slc false (.v 0) .skip (.c (.int 24)))) (.cons (.asg (.nm 4) (.call false jp (.cons (.v 7) (.cons (.c (.int 1)) (.cons (.bi false .len (.cons (.v 3) .nil)) .nil))) [])) (.cons (.ex (.mt false .append (.ix (.v 5) (.v 4)) (.cons (.call false je (.cons (.v 3) (.cons (.v 4) (.cons (.bin false .add (.v 7) (.bin false .mul (.c (.int 31)) (.v 6))) .nil))) []) .nil))) .nil))) (.cons (.ret (.comp false (.tup (.cons (.ix (.ix (.v 3) (.v 4)) (.c (.int 0))) (.cons (.ix (.ix (.v 3) (.v 4)) (.c (.int 1))) (.cons (.frz (.ix (.v 5) (.v 4))) .nil)))) (.nm 4) (.rng1 (.bi false .len (.cons (.v 3) .nil))) (.c (.bool true)) [4])) .nil))))))
theorem atI_mem {α : Type} (xs : List α) (i : Int) (h : 0 ≤ i) (h2 : i < xs.length) : ∃ x, L2.atI xs i = some x ∧ x ∈ xs := by
  rw [atI_nat xs i h h2]
  have : i.toNat < xs.length := by omega
  exact ⟨xs[i.toNat], List.getElem?_eq_getElem this, List.getElem_mem _⟩
def PickOk (C : Cn) (jp : Nat) : Prop := ∀ (O T : Cs) (c k m : Int), 0 < m → ∃ r : Int, 0 ≤ r ∧ r < m ∧ callP C O jp [.d (.int c), .d (.int k), .d (.int m)] T = .ok (.d (.int r)) T
theorem pick_run {G : Pg} {jp : Nat} (hG : G.defs jp = some ⟨3, 5, pickB⟩) (n : Nat) : PickOk (cn G (n + 1)) jp := by
  intro O T c k many hm
  obtain ⟨x, hx, mx⟩ := atI_mem ([.int 48271, .int 69621, .int 39373, .int 16807, .int 40692, .int 52774, .int 33614] : List D) (k % 7) (by omega) (by simp; omega)
  obtain ⟨y, hy, my⟩ := atI_mem ([.int 2147483629, .int 2147483587, .int 2147483579] : List D) (k % 3) (by omega) (by simp; omega)
  obtain ⟨b, rfl⟩ : ∃ b, x = .int b := by
    simp only [List.mem_cons, List.not_mem_nil, or_false] at mx
    rcases mx with rfl | rfl | rfl | rfl | rfl | rfl | rfl <;> exact ⟨_, rfl⟩
  obtain ⟨d, rfl, hd⟩ : ∃ d, y = .int d ∧ 0 < d := by
    simp only [List.mem_cons, List.not_mem_nil, or_false] at my
    rcases my with rfl | rfl | rfl <;> exact ⟨_, rfl, by decide⟩
  refine ⟨((c % 2147483647 * b + 7919 * k + 13) * ((c % 2147483647 * b + 7919 * k + 13) % 104729 + 1) % d % many), Int.emod_nonneg _ (by omega), Int.emod_lt_of_pos _ hm, callP_r O T (T' := []) ?_⟩
  refine Gv.eq (run_wp hG rfl ?_)
  have m1 : mulOk (c % 2147483647) b = true := mul_okL (by omega)
  have m2 : mulOk 7919 k = true := mul_okL (by omega)
  have m3 : mulOk (c % 2147483647 * b + 7919 * k + 13) ((c % 2147483647 * b + 7919 * k + 13) % 104729 + 1) = true := mul_ok (by omega)
  simp [pickB, hx, hy, m1, m2, m3, hd, hm]
theorem snocN (l : List Nat) (r : Int) (h : 0 ≤ r) : nD l ++ [.int r] = nD (l ++ [r.toNat]) := by
  rw [nD_app]
  simp [nD, nI, Int.toNat_of_nonneg h]
theorem band_b {a b m : Int} (ha : 0 ≤ a) (ha2 : a < m) (hb : 0 ≤ b) : 0 ≤ Builtin.bitAnd a b ∧ Builtin.bitAnd a b < m := by
  obtain ⟨x, rfl⟩ := Int.eq_ofNat_of_zero_le ha
  obtain ⟨y, rfl⟩ := Int.eq_ofNat_of_zero_le hb
  rw [bitAnd_n]
  have : x &&& y ≤ x := Nat.and_le_left
  omega
theorem bor_b {a b : Int} {t : Nat} (ha : 0 ≤ a) (ha2 : a < 2 ^ t) (hb : 0 ≤ b) (hb2 : b < 2 ^ t) : 0 ≤ Builtin.bitOr a b ∧ Builtin.bitOr a b < 2 ^ t := by
  obtain ⟨x, rfl⟩ := Int.eq_ofNat_of_zero_le ha
  obtain ⟨y, rfl⟩ := Int.eq_ofNat_of_zero_le hb
  rw [bitOr_n]
  have e : ((2 : Int) ^ t) = ((2 ^ t : Nat) : Int) := by simp
  rw [e] at ha2 hb2 ⊢
  have : x ||| y < 2 ^ t := Nat.or_lt_two_pow (by omega) (by omega)
  omega
theorem pow_b {a : Nat} {t : Nat} (h : a < t) : (0 : Int) ≤ 2 ^ a ∧ (2 : Int) ^ a < 2 ^ t := by
  have e : ∀ n : Nat, ((2 : Int) ^ n) = ((2 ^ n : Nat) : Int) := fun n => by simp
  rw [e a, e t]
  have : 2 ^ a < 2 ^ t := Nat.pow_lt_pow_right (by decide) h
  exact ⟨Int.natCast_nonneg _, Int.ofNat_lt.mpr this⟩
def TbIn (tb : List Nat) (many to : Int) : Prop := tb.length = many.toNat ∧ ∀ r ∈ tb, r < 2 ^ to.toNat
def TableOk (C : Cn) (jt : Nat) : Prop := ∀ (O T : Cs) (c k nn to : Int), 0 ≤ nn → nn ≤ 6 → 1 ≤ to → to ≤ 6 → ∃ tb : List Nat, TbIn tb nn to ∧ callP C O jt [.d (.int c), .d (.int k), .d (.int nn), .d (.int to)] T = .ok (.d (.tuple (nD tb))) T
theorem table_run {G : Pg} {jp jt : Nat} (hG : G.defs jt = some ⟨4, 7, tableB jp⟩) (n : Nat) (hp : PickOk (cn G n) jp) : TableOk (cn G (n + 1)) jt := by
  intro O T c k nn to n0 n6 t1 t6
  suffices hg : Gv (Y.run G (n + 1) (O ++ T) jt [.d (.int c), .d (.int k), .d (.int nn), .d (.int to)] []) fun u T' => ∃ tb : List Nat, TbIn tb nn to ∧ u = .d (.tuple (nD tb)) by
    obtain ⟨u, T', e, tb, htb, rfl⟩ := hg.ex
    exact ⟨tb, htb, callP_r O T e⟩
  refine run_wp hG rfl ?_
  generalize O ++ T = O
  generalize cn G n = C at hp
  have hro : rngOk 0 nn = true := by simp [rngOk]; omega
  simp only [tableB]
  simp
  refine wp_for ⟨rngU 0 nn.toNat 1, none, [.lst []]⟩ [.lst []] (fun i ρ T => ∃ (rows : List Nat) (x y : Option U), T = [.lst (nD rows)] ∧ rows.length = i ∧ (∀ r ∈ rows, r < 2 ^ to.toNat) ∧ ρ = [some (.d (.int c)), some (.d (.int k)), some (.d (.int nn)), some (.d (.int to)), some (.ref O.length), x, y]) ?_ ?_ (by simp) ?_ ?_
  · simp [hro]
  · exact ⟨[], none, none, rfl, rfl, by simp, rfl⟩
  · rintro i u hu ρ T ⟨rows, x, y, rfl, hrl, hrb, rfl⟩
    obtain ⟨hi, rfl⟩ := rngU_get hu
    obtain ⟨iI, hiI⟩ : ∃ iI : Int, iI = (i : Int) := ⟨_, rfl⟩
    have hw0 : (0 + ((i : Nat) : Int) * 1) = iI := by omega
    rw [hw0]
    refine ⟨_, rfl, ?_⟩
    have hlen : (nD rows).length ≤ 1000000 := by simp [nD, nI]; omega
    have hsn : ∀ v : Int, 0 ≤ v → v < 2 ^ to.toNat → ∃ rows' : List Nat, nD rows ++ [.int v] = nD rows' ∧ rows'.length = i + 1 ∧ ∀ r ∈ rows', r < 2 ^ to.toNat := by
      intro v v0 v1
      refine ⟨rows ++ [v.toNat], snocN rows v v0, by simp [hrl], fun r hr => ?_⟩
      rw [List.mem_append] at hr
      rcases hr with hr | hr
      · exact hrb r hr
      · simp at hr
        subst hr
        have e : ((2 : Int) ^ to.toNat) = ((2 ^ to.toNat : Nat) : Int) := by simp
        rw [e] at v1
        omega
    have hi0 : 0 ≤ iI := by omega
    clear hu hrb hrl hw0
    generalize nD rows = R at hsn hlen
    have hM : (0 : Int) < 2 ^ to.toNat := Int.pow_pos (by decide)
    obtain ⟨r0, a0, a1, e0⟩ := hp O [.lst R] c (k + 2 * iI) (2 ^ to.toNat) hM
    obtain ⟨r1, b0, b1, e1⟩ := hp O [.lst R] c (k + 19) 3 (by decide)
    obtain ⟨r2, c0, c1, e2⟩ := hp O [.lst R] c (k + 2 * iI + 1) (2 ^ to.toNat) hM
    obtain ⟨r3, d0, d1, e3⟩ := hp O [.lst R] c (k + 20) 3 (by decide)
    have m1 : mulOk 2 iI = true := mul_okL (by omega)
    have hto : 0 ≤ to ∧ to ≤ 1000 := by omega
    have ht0 : 0 < to := by omega
    have hmod : 0 ≤ iI % to ∧ iI % to ≤ 1000 := ⟨Int.emod_nonneg _ (by omega), by have := Int.emod_lt_of_pos iI ht0; omega⟩
    have hpw := pow_b (a := (iI % to).toNat) (t := to.toNat) (by have := Int.emod_lt_of_pos iI ht0; omega)
    simp [m1, hto, ht0, hmod, e0, e1, e2, e3, hlen]
    have q1 := band_b a0 a1 c0
    refine ⟨fun _ => ⟨fun _ => ?_, fun _ => ?_⟩, fun _ => ⟨fun _ => ?_, fun _ => ?_⟩⟩
    · have := bor_b q1.1 q1.2 hpw.1 hpw.2
      exact hsn _ this.1 this.2
    · exact hsn _ q1.1 q1.2
    · have := bor_b a0 a1 hpw.1 hpw.2
      exact hsn _ this.1 this.2
    · exact hsn _ a0 a1
  · rintro ρ T ⟨rows, x, y, rfl, hrl, hrb, rfl⟩
    simp only [rngU_len] at hrl
    simp [seqL, mkT]
    exact ⟨rows, ⟨hrl, hrb⟩, rfl⟩
inductive Ed where
  | st (p q c : Int) (t : List Nat)
  | ca (p q c g : Int) (a b t : List Nat)
def Ed.d : Ed → D
  | .st p q c t => .tuple [.str "step", .int p, .int q, .int c, .tuple (nD t)]
  | .ca p q c g a b t => .tuple [.str "call", .int p, .int q, .int c, .int g, .tuple (nD a), .tuple (nD b), .tuple (nD t)]
abbrev Sz := List (Int × Int)
def szD (s : Sz) : List D := s.map fun p => .tuple [.int p.1, .int p.2]
def SzOk (s : Sz) : Prop := (1 ≤ s.length ∧ s.length ≤ 6) ∧ ∀ p ∈ s, 1 ≤ p.1 ∧ p.1 ≤ 10 ∧ 1 ≤ p.2 ∧ p.2 ≤ 6
def HeadOk (P p q c : Int) : Prop := 0 ≤ p ∧ p < P ∧ 0 ≤ q ∧ q < P ∧ 1 ≤ c ∧ c ≤ 1000000000000000000
def EdOk (s : Sz) (f : Nat) : Ed → Prop
  | .st p q c t => ∃ P n, s[f]? = some (P, n) ∧ HeadOk P p q c ∧ TbIn t n n
  | .ca p q c g a b t => ∃ P n Q m, s[f]? = some (P, n) ∧ 0 ≤ g ∧ g < s.length ∧ s[g.toNat]? = some (Q, m) ∧ HeadOk P p q c ∧ TbIn a n m ∧ TbIn b m n ∧ TbIn t n n
theorem sz_at {s : Sz} (h : SzOk s) {f : Int} (h0 : 0 ≤ f) (h1 : f < s.length) : ∃ P n : Int, s[f.toNat]? = some (P, n) ∧ (1 ≤ P ∧ P ≤ 10 ∧ 1 ≤ n ∧ n ≤ 6) ∧ L2.atI (szD s) f = some (.tuple [.int P, .int n]) := by
  have hlt : f.toNat < s.length := by omega
  refine ⟨s[f.toNat].1, s[f.toNat].2, List.getElem?_eq_getElem hlt, h.2 _ (List.getElem_mem _), ?_⟩
  rw [atI_nat _ _ h0 (by simpa [szD] using h1)]
  simp [szD, List.getElem?_eq_getElem hlt]
theorem ixU_at {O T : Cs} {r : Nat} {ds : List D} {i : Int} {x : D} (h : getC O T r = some (.lst ds)) (hx : L2.atI ds i = some x) : ixU O (.ref r) (.d (.int i)) T = some (.d x) := by
  unfold ixU
  simp only [h, hx]
  rfl
theorem ixU_atU {O T : Cs} {r : Nat} {us : List U} {i : Int} {x : U} (h : getC O T r = some (.lstU us)) (hx : L2.atI us i = some x) : ixU O (.ref r) (.d (.int i)) T = some x := by
  unfold ixU
  simp only [h, hx]
theorem lenB_ref {O T : Cs} {r : Nat} {ds : List D} (h : getC O T r = some (.lst ds)) : lenB O T (.ref r) = .ok (.d (.int ds.length)) T := by
  unfold lenB seqA
  simp [h]
theorem lenB_refU {O T : Cs} {r : Nat} {us : List U} (h : getC O T r = some (.lstU us)) : lenB O T (.ref r) = .ok (.d (.int us.length)) T := by
  unfold lenB seqA
  simp [h]
theorem getC_O (O T : Cs) (r : Nat) : getC (O ++ T) [] r = getC O T r := by
  rw [getC_eq, getC_eq, List.append_nil]
def EdgeOk (C : Cn) (je : Nat) : Prop := ∀ (O T : Cs) (r : Nat) (s : Sz) (f c : Int), SzOk s → getC O T r = some (.lst (szD s)) → 0 ≤ f → f < s.length → ∃ e : Ed, EdOk s f.toNat e ∧ callP C O je [.ref r, .d (.int f), .d (.int c)] T = .ok (.d e.d) T
theorem edge_run {G : Pg} {jp jt je : Nat} (hG : G.defs je = some ⟨3, 11, edgeB jp jt⟩) (n : Nat) (hp : PickOk (cn G n) jp) (ht : TableOk (cn G n) jt) : EdgeOk (cn G (n + 1)) je := by
  intro O T r s f c hs hr f0 f1
  suffices hg : Gv (Y.run G (n + 1) (O ++ T) je [.ref r, .d (.int f), .d (.int c)] []) fun u T' => ∃ e : Ed, EdOk s f.toNat e ∧ u = .d e.d by
    obtain ⟨u, T', e, ed, h1, rfl⟩ := hg.ex
    exact ⟨ed, h1, callP_r O T e⟩
  refine run_wp hG rfl ?_
  rw [← getC_O] at hr
  generalize O ++ T = O at hr
  generalize cn G n = C at hp ht
  obtain ⟨P, m, hf, hb, hx⟩ := sz_at hs f0 f1
  obtain ⟨s1, s6⟩ := hs.1
  obtain ⟨r2, a20, a21, e2⟩ := hp O [] c 2 9 (by decide)
  obtain ⟨r8, a80, a81, e8⟩ := hp O [] c 8 2 (by decide)
  obtain ⟨r3, a30, a31, e3⟩ := hp O [] c 3 3 (by decide)
  obtain ⟨r4, a40, a41, e4⟩ := hp O [] c 4 P (by omega)
  obtain ⟨r5, a50, a51, e5⟩ := hp O [] c 5 P (by omega)
  obtain ⟨r6, a60, a61, e6⟩ := hp O [] c 6 5 (by decide)
  obtain ⟨r7, a70, a71, e7⟩ := hp O [] c 7 s.length (by omega)
  obtain ⟨Q, k, hg, hbg, hxg⟩ := sz_at hs a70 a71
  obtain ⟨t1, b1, c1⟩ := ht O [] c 30 m m (by omega) (by omega) (by omega) (by omega)
  obtain ⟨t2, b2, c2⟩ := ht O [] c 60 m k (by omega) (by omega) (by omega) (by omega)
  obtain ⟨t3, b3, c3⟩ := ht O [] c 90 k m (by omega) (by omega) (by omega) (by omega)
  obtain ⟨t4, b4, c4⟩ := ht O [] c 120 m m (by omega) (by omega) (by omega) (by omega)
  obtain ⟨v, hv, mv⟩ := atI_mem ([.int (1 + c % 1000000000000000000), .int (1 + r2), .int (1000000000000000000 - r8)] : List D) r3 a30 (by simpa using a31)
  obtain ⟨w, rfl, hw⟩ : ∃ w, v = .int w ∧ 1 ≤ w ∧ w ≤ 1000000000000000000 := by
    simp only [List.mem_cons, List.not_mem_nil, or_false] at mv
    rcases mv with rfl | rfl | rfl
    · exact ⟨_, rfl, by omega⟩
    · exact ⟨_, rfl, by omega⟩
    · exact ⟨_, rfl, by omega⟩
  have hln : (szD s).length = s.length := by simp [szD]
  have h18 : ((10 : Int) ^ (18 : Int).toNat) = 1000000000000000000 := by decide
  have hst : EdOk s f.toNat (.st r4 r5 w t1) := ⟨P, m, hf, ⟨a40, a41, a50, a51, hw.1, hw.2⟩, b1⟩
  have hca : EdOk s f.toNat (.ca r4 r5 w r7 t2 t3 t4) := ⟨P, m, Q, k, hf, a70, a71, hg, ⟨a40, a41, a50, a51, hw.1, hw.2⟩, b2, b3, b4⟩
  have ix0 : ixU O (.ref r) (.d (.int f)) [] = some (.d (.tuple [.int P, .int m])) := by
    exact ixU_at hr hx
  have ix7 : ixU O (.ref r) (.d (.int r7)) [] = some (.d (.tuple [.int Q, .int k])) := by
    exact ixU_at hr hxg
  have len0 : lenB O [] (.ref r) = .ok (.d (.int s.length)) [] := by
    rw [lenB_ref hr, hln]
  have at1 : ∀ a b : Int, L2.atI [PyData.int a, PyData.int b] 1 = some (.int b) := fun a b => rfl
  clear hs hr hx hxg hf hg hln mv
  generalize s.length = ln at *
  simp only [edgeB]
  simp [ix0, ix7, len0, e2, e3, e4, e5, e6, e7, e8, c1, c2, c3, c4, hv, at1]
  exact ⟨fun _ => ⟨_, hst, rfl⟩, fun _ => ⟨_, hca, rfl⟩⟩
theorem compC_st {f : U → Cs → R (Option U)} {ok : Cs → Bool} {n : Nat} : ∀ (us : List U) (St : Nat → Cs), (∀ i u, us[i]? = some u → ok (St i) = true ∧ ∃ oy T', f u (St i) = .ok oy T' ∧ putC n oy T' = .ok () (St (i + 1))) → ok (St us.length) = true → compC f ok n us (St 0) = .ok () (St us.length)
  | [], St, _, he => by
    have he : ok (St 0) = true := he
    rw [compC, if_pos he]
    rfl
  | u :: us, St, h, he => by
    obtain ⟨h1, oy, T', h2, h3⟩ := h 0 u rfl
    rw [compC, if_pos h1, h2, R.bind_ok, h3, R.bind_ok]
    exact compC_st us (fun i => St (i + 1)) (fun i v hv => h (i + 1) v hv) he
theorem comp_st {C : Cn} {O T T0 : Cs} {ρ : Rho} {elt t : CE} {g : Tg} {it : IT} {own : List Nat} {us : List U} {w : Option Nat} {tt : Cs} {live : Bool} (St : Nat → Cs) (he : denI C O ρ it T = .ok ⟨us, w, tt⟩ T0) (h0 : St 0 = T0 ++ [.lstU []])
    (h : ∀ i u, us[i]? = some u → sameW O tt (St i) w = true ∧ ∃ ρ1, asgT O (St i) g u (wipeR ρ own) = some ρ1 ∧ den C O ρ1 t (St i) = .ok (.d (.bool true)) (St i) ∧ ∃ y T', den C O ρ1 elt (St i) = .ok y T' ∧ putC T0.length (some y) T' = .ok () (St (i + 1)))
    (hE : sameW O tt (St us.length) w = true) : den C O ρ (.comp live elt g it t own) T = compE O live T0 (St us.length) := by
  rw [den, he, R.bind_ok]
  have k := compC_st (f := fun u T => match asgT O T g u (wipeR ρ own) with
        | some ρ' => (den C O ρ' t T).bind fun b T => brB (asB b) ((den C O ρ' elt T).bind fun y T => .ok (some y) T) (.ok none T)
        | none => .fail) (ok := fun T' => sameW O tt T' w) (n := T0.length) us St (fun i u hu => by
    obtain ⟨h1, ρ1, e1, e2, y, T', e3, e4⟩ := h i u hu
    refine ⟨h1, some y, T', ?_, e4⟩
    simp only [e1, e2, e3, R.bind_ok, asB_bool, brB_t]) hE
  rw [h0] at k
  exact (congrArg (fun r : R Unit => r.bind fun _ T' => compE O live T0 T') k).trans rfl
theorem putC_at {n : Nat} {y : U} {T : Cs} {acc : List U} (h : T[n]? = some (.lstU acc)) (hl : acc.length ≤ 1000000) : putC n (some y) T = .ok () (T.set n (.lstU (acc ++ [y]))) := by
  unfold putC
  simp [h, hl]
abbrev Ch := List (Int × Int × List Ed)
def chSz (ch : Ch) : Sz := ch.map fun x => (x.1, x.2.1)
def chD (ch : Ch) : List D := ch.map fun x => .tuple [.int x.1, .int x.2.1, .list (x.2.2.map Ed.d)]
def manyE (ch : Ch) : Nat := (ch.map fun x => x.2.2.length).sum
def ChOk (ch : Ch) : Prop := SzOk (chSz ch) ∧ (∀ f x, ch[f]? = some x → ∀ e ∈ x.2.2, EdOk (chSz ch) f e) ∧ manyE ch ≤ 24
def lstE (es : List Ed) : Cell := .lst (es.map Ed.d)
def refs (n m : Nat) : List U := (List.range m).map fun j => U.ref (n + (2 + j))
theorem refs_len (n m : Nat) : (refs n m).length = m := by simp [refs]
theorem refs_S (n m : Nat) : refs n (m + 1) = refs n m ++ [.ref (n + (2 + m))] := by
  simp [refs, List.range_succ]
theorem refs_at (n m : Nat) (f : Int) (h0 : 0 ≤ f) (h1 : f < m) : L2.atI (refs n m) f = some (.ref (n + (2 + f.toNat))) := by
  rw [atI_nat _ _ h0 (by rw [refs_len]; exact h1)]
  have : f.toNat < m := by omega
  simp [refs, this]
theorem refs_cell {n m : Nat} (h : 0 < m) : cellOf (refs n m) = .lstU (refs n m) := by
  unfold cellOf
  cases m with
  | zero => omega
  | succ m =>
    have : allD (refs n (m + 1)) = none := by
      unfold refs
      rw [List.range_succ_eq_map]
      rfl
    rw [this]
section
variable {C : Cn} {O : Cs} {jp je : Nat}
/-- the empty lists -/
theorem edges0 (s : Sz) (hs : SzOk s) (ρ : Rho) (h3 : ρ[3]? = some (some (.ref O.length))) (h8 : 8 < ρ.length) : den C O ρ (.comp true (.lst true .nil) (.nm 8) (.lst (.v 3)) (.c (.bool true)) [8]) [.lst (szD s)] = .ok (.ref (O.length + 1)) (.lst (szD s) :: .lstU (refs O.length s.length) :: List.replicate s.length (lstE [])) := by
  have hln : (szD s).length = s.length := by simp [szD]
  have hsq : seqL O [.lst (szD s)] (.ref O.length) = some ((szD s).map .d) := by simp
  have k := comp_st (C := C) (O := O) (T := [.lst (szD s)]) (T0 := [.lst (szD s)]) (ρ := ρ) (elt := .lst true .nil) (t := .c (.bool true)) (g := .nm 8) (it := .lst (.v 3)) (own := [8]) (us := (szD s).map .d) (w := some O.length) (tt := [.lst (szD s)]) (live := true)
    (fun i => .lst (szD s) :: .lstU (refs O.length i) :: List.replicate i (lstE [])) (by
      rw [denI, den_v, h3]
      simp only [R.bind_ok, hsq]
      rfl) (by rfl) (by
      intro i u hu
      have hi : i < s.length := by
        have := (List.getElem?_eq_some_iff.mp hu).1
        simpa [hln] using this
      refine ⟨sameW_refl (c := .lst (szD s)) (by simp) (by simp) (.inl ⟨_, rfl⟩), _, rfl, by simp, .ref (O.length + (2 + i)), .lst (szD s) :: .lstU (refs O.length i) :: (List.replicate i (lstE []) ++ [lstE []]), ?_, ?_⟩
      · simp [lstE]
        omega
      · rw [putC_at (acc := refs O.length i) rfl (by rw [refs_len]; have := hs.1.2; omega)]
        simp only [List.length_cons, List.length_nil, List.set_cons_succ, List.set_cons_zero, refs_S, List.replicate_succ']) (sameW_refl (c := .lst (szD s)) (by simp) (by simp) (.inl ⟨_, rfl⟩))
  rw [k]
  simp only [List.length_map, hln]
  have e5 : (Cell.lst (szD s) :: .lstU (refs O.length s.length) :: List.replicate s.length (lstE []))[[Cell.lst (szD s)].length]? = some (.lstU (refs O.length s.length)) := rfl
  unfold compE
  simp only [e5]
  rw [if_pos trivial, refs_cell (by have := hs.1.1; omega)]
  rfl
theorem end_elt (ρ : Rho) (T T' : Cs) (i : Int) (j : Nat) (sz : List D) (rf : List U) (P n : Int) (es : List D) (h3 : ρ[3]? = some (some (.ref O.length))) (h5 : ρ[5]? = some (some (.ref (O.length + 1)))) (h4 : 4 < ρ.length)
    (g0 : getC O T O.length = some (.lst sz)) (hx : L2.atI sz i = some (.tuple [.int P, .int n])) (g1 : getC O T (O.length + 1) = some (.lstU rf)) (hre : L2.atI rf i = some (.ref (O.length + j))) (gj : getC O T (O.length + j) = some (.lst es)) (hlt : j < T.length) (hS : T.set j .dead = T') :
    den C O ((wipeR ρ [4]).set 4 (some (.d (.int i)))) (.tup (.cons (.ix (.ix (.v 3) (.v 4)) (.c (.int 0))) (.cons (.ix (.ix (.v 3) (.v 4)) (.c (.int 1))) (.cons (.frz (.ix (.v 5) (.v 4))) .nil)))) T = .ok (.d (.tuple [.int P, .int n, .list es])) T' := by
  have a0 : ixU O (.ref O.length) (.d (.int i)) T = some (.d (.tuple [.int P, .int n])) := ixU_at g0 hx
  have a1 : ixU O (.ref (O.length + 1)) (.d (.int i)) T = some (.ref (O.length + j)) := ixU_atU g1 hre
  have b0 : L2.atI [PyData.int P, PyData.int n] 0 = some (.int P) := rfl
  have b1 : L2.atI [PyData.int P, PyData.int n] 1 = some (.int n) := rfl
  have hf : frzU O (.ref (O.length + j)) T = .ok (.d (.list es)) T' := by
    unfold frzU
    simp [gj, hlt, hS]
  have q3 : ((wipeR ρ [4]).set 4 (some (U.d (.int i))))[3]? = some (some (.ref O.length)) := by simp [wipeR, h3]
  have q5 : ((wipeR ρ [4]).set 4 (some (U.d (.int i))))[5]? = some (some (.ref (O.length + 1))) := by simp [wipeR, h5]
  have q4 : ((wipeR ρ [4]).set 4 (some (U.d (.int i))))[4]? = some (some (.d (.int i))) := by simp [wipeR, h4]
  generalize (wipeR ρ [4]).set 4 (some (U.d (.int i))) = ρ' at q3 q4 q5 ⊢
  simp [q3, q4, q5, a0, a1, b0, b1, hf]
/-- the chart, made of its lists -/
theorem chart_end (s : Sz) (hs : SzOk s) (ess : List (List Ed)) (hl : ess.length = s.length) (ρ : Rho) (h3 : ρ[3]? = some (some (.ref O.length))) (h5 : ρ[5]? = some (some (.ref (O.length + 1)))) (h4 : 4 < ρ.length) :
    ∃ T', den C O ρ (.comp false (.tup (.cons (.ix (.ix (.v 3) (.v 4)) (.c (.int 0))) (.cons (.ix (.ix (.v 3) (.v 4)) (.c (.int 1))) (.cons (.frz (.ix (.v 5) (.v 4))) .nil)))) (.nm 4) (.rng1 (.bi false .len (.cons (.v 3) .nil))) (.c (.bool true)) [4]) (.lst (szD s) :: .lstU (refs O.length s.length) :: ess.map lstE) = .ok (.d (.list (chD ((s.zip ess).map fun p => (p.1.1, p.1.2, p.2))))) T' := by
  have hln : (szD s).length = s.length := by simp [szD]
  obtain ⟨s1, s6⟩ := hs.1
  have len0 : ∀ T, lenB O (.lst (szD s) :: T) (.ref O.length) = .ok (.d (.int s.length)) (.lst (szD s) :: T) := by
    intro T
    rw [lenB_ref (ds := szD s) (by simp), hln]
  have hro : rngOk 0 (s.length : Int) = true := by simp [rngOk]; omega
  have hcl : (chD ((s.zip ess).map fun p => (p.1.1, p.1.2, p.2))).length = s.length := by simp [chD, hl]
  generalize hR : chD ((s.zip ess).map fun p => (p.1.1, p.1.2, p.2)) = Rs at hcl
  have k := comp_st (C := C) (O := O) (T := .lst (szD s) :: .lstU (refs O.length s.length) :: ess.map lstE) (T0 := .lst (szD s) :: .lstU (refs O.length s.length) :: ess.map lstE) (ρ := ρ) (elt := .tup (.cons (.ix (.ix (.v 3) (.v 4)) (.c (.int 0))) (.cons (.ix (.ix (.v 3) (.v 4)) (.c (.int 1))) (.cons (.frz (.ix (.v 5) (.v 4))) .nil)))) (t := .c (.bool true)) (g := .nm 4) (it := .rng1 (.bi false .len (.cons (.v 3) .nil))) (own := [4]) (us := rngU 0 s.length 1) (w := none) (tt := .lst (szD s) :: .lstU (refs O.length s.length) :: ess.map lstE) (live := false)
    (fun i => .lst (szD s) :: .lstU (refs O.length s.length) :: ((List.replicate i .dead ++ (ess.drop i).map lstE) ++ [.lstU ((Rs.take i).map .d)])) (by
      refine rng1_ok (z := (s.length : Int)) ?_ hro (by simp)
      rw [den_bi, denA_cons, den_v, h3]
      simp only [R.bind_ok, denA_nil, biU_len, one_one, len0]) (by simp) (by
      intro i u hu
      obtain ⟨hi, rfl⟩ := rngU_get hu
      have hu0 : (0 + ((i : Nat) : Int) * 1) = ((i : Nat) : Int) := by omega
      rw [hu0]
      obtain ⟨P, n, hf, hb, hx⟩ := sz_at hs (f := (i : Int)) (by omega) (by omega)
      have hie : i < ess.length := by omega
      have hes : ess[i]? = some ess[i] := List.getElem?_eq_getElem hie
      have hd : ess.drop i = ess[i] :: ess.drop (i + 1) := List.drop_eq_getElem_cons hie
      have hri : Rs[i]? = some (.tuple [.int P, .int n, .list ((ess[i]).map Ed.d)]) := by
        rw [← hR]
        have hf' : s[i]? = some (P, n) := by simpa using hf
        have hz : (s.zip ess)[i]? = some ((P, n), ess[i]) := List.getElem?_zip_eq_some.mpr ⟨hf', hes⟩
        simp [chD, hz]
      generalize hE : ess[i] = es at *
      refine ⟨rfl, _, rfl, by simp, .d (.tuple [.int P, .int n, .list (es.map Ed.d)]), .lst (szD s) :: .lstU (refs O.length s.length) :: ((List.replicate (i + 1) .dead ++ (ess.drop (i + 1)).map lstE) ++ [.lstU ((Rs.take i).map .d)]), ?_, ?_⟩
      · have hre := refs_at O.length s.length (i : Int) (by omega) (by omega)
        simp only [Int.toNat_natCast] at hre
        have hT : (.lst (szD s) :: .lstU (refs O.length s.length) :: ((List.replicate i .dead ++ (ess.drop i).map lstE) ++ [.lstU ((Rs.take i).map .d)]) : Cs)[2 + i]? = some (.lst (es.map Ed.d)) := by
          rw [hd, Nat.add_comm 2 i]
          simp only [List.getElem?_cons_succ, List.append_assoc]
          rw [List.getElem?_append_right (by simp)]
          simp [lstE]
        have hS : (.lst (szD s) :: .lstU (refs O.length s.length) :: ((List.replicate i .dead ++ (ess.drop i).map lstE) ++ [.lstU ((Rs.take i).map .d)]) : Cs).set (2 + i) .dead = .lst (szD s) :: .lstU (refs O.length s.length) :: ((List.replicate (i + 1) .dead ++ (ess.drop (i + 1)).map lstE) ++ [.lstU ((Rs.take i).map .d)]) := by
          rw [hd, Nat.add_comm 2 i]
          simp only [List.set_cons_succ, List.append_assoc]
          rw [List.set_append_right (h := by simp)]
          simp [List.replicate_succ', lstE]
        have hlt : 2 + i < (.lst (szD s) :: .lstU (refs O.length s.length) :: ((List.replicate i .dead ++ (ess.drop i).map lstE) ++ [.lstU ((Rs.take i).map .d)]) : Cs).length := (List.getElem?_eq_some_iff.mp hT).1
        have h0 : (.lst (szD s) :: .lstU (refs O.length s.length) :: ((List.replicate i .dead ++ (ess.drop i).map lstE) ++ [.lstU ((Rs.take i).map .d)]) : Cs)[0]? = some (.lst (szD s)) := rfl
        have h1 : (.lst (szD s) :: .lstU (refs O.length s.length) :: ((List.replicate i .dead ++ (ess.drop i).map lstE) ++ [.lstU ((Rs.take i).map .d)]) : Cs)[1]? = some (.lstU (refs O.length s.length)) := rfl
        generalize (.lst (szD s) :: .lstU (refs O.length s.length) :: ((List.replicate i .dead ++ (ess.drop i).map lstE) ++ [.lstU ((Rs.take i).map .d)]) : Cs) = TT at hT hS hlt h0 h1 ⊢
        exact end_elt ρ TT _ (i : Int) (2 + i) _ _ P n (es.map Ed.d) h3 h5 h4 (by rw [getC_0, h0]) hx (by rw [getC_k, h1]) hre (by rw [getC_k, hT]) hlt hS
      · have hTl : (Cell.lst (szD s) :: .lstU (refs O.length s.length) :: ess.map lstE).length = 2 + s.length := by simp [hl]; omega
        rw [hTl]
        have hln2 : (List.replicate (i + 1) Cell.dead ++ (ess.drop (i + 1)).map lstE).length = s.length := by simp; omega
        rw [putC_at (acc := (Rs.take i).map .d) (by
          rw [Nat.add_comm 2 s.length]
          simp only [List.getElem?_cons_succ]
          rw [List.getElem?_append_right (by omega), hln2]
          simp) (by simp; omega)]
        rw [Nat.add_comm 2 s.length]
        simp only [List.set_cons_succ]
        rw [List.set_append_right (h := by omega), hln2, List.take_add_one, hri]
        simp) rfl
  rw [k]
  have hul : (rngU 0 s.length 1).length = s.length := rngU_len
  rw [hul]
  have hdr : ess.drop s.length = [] := List.drop_eq_nil_of_le (by omega)
  have hTl : (Cell.lst (szD s) :: .lstU (refs O.length s.length) :: ess.map lstE).length = 2 + s.length := by simp [hl]; omega
  have hta : Rs.take s.length = Rs := List.take_of_length_le (by omega)
  rw [hdr, hta]
  have e5 : (Cell.lst (szD s) :: .lstU (refs O.length s.length) :: ((List.replicate s.length .dead ++ ([] : List (List Ed)).map lstE) ++ [.lstU (Rs.map .d)]))[(Cell.lst (szD s) :: .lstU (refs O.length s.length) :: ess.map lstE).length]? = some (.lstU (Rs.map .d)) := by
    rw [hTl, Nat.add_comm 2 s.length]
    simp only [List.getElem?_cons_succ]
    rw [List.getElem?_append_right (by simp)]
    simp
  unfold compE
  simp only [e5, allD_map]
  rw [if_neg (by decide)]
  split
  · exact ⟨_, rfl⟩
  · exact ⟨_, rfl⟩
end
theorem lay.mono {k m : Nat} {d : D} (h : lay k d) (hk : k ≤ m) : lay m d := ⟨h.1, Nat.le_trans h.2 hk⟩
theorem lay_step : lay 0 (.str "step") := ⟨by decide +kernel, Nat.le_refl _⟩
theorem lay_call : lay 0 (.str "call") := ⟨by decide +kernel, Nat.le_refl _⟩
theorem lay_ed (e : Ed) : lay 2 e.d := by
  cases e with
  | st p q c t =>
    refine lay_tuple fun x hx => ?_
    simp only [List.mem_cons, List.not_mem_nil, or_false] at hx
    rcases hx with rfl | rfl | rfl | rfl | rfl
    · exact lay_step.mono (by decide)
    · exact (lay_int _).mono (by decide)
    · exact (lay_int _).mono (by decide)
    · exact (lay_int _).mono (by decide)
    · exact lay_nT _
  | ca p q c g a b t =>
    refine lay_tuple fun x hx => ?_
    simp only [List.mem_cons, List.not_mem_nil, or_false] at hx
    rcases hx with rfl | rfl | rfl | rfl | rfl | rfl | rfl | rfl
    · exact lay_call.mono (by decide)
    · exact (lay_int _).mono (by decide)
    · exact (lay_int _).mono (by decide)
    · exact (lay_int _).mono (by decide)
    · exact (lay_int _).mono (by decide)
    · exact lay_nT _
    · exact lay_nT _
    · exact lay_nT _
theorem lay_fn (x : Int × Int × List Ed) : lay 4 (.tuple [.int x.1, .int x.2.1, .list (x.2.2.map Ed.d)]) := by
  refine lay_tuple fun y hy => ?_
  simp only [List.mem_cons, List.not_mem_nil, or_false] at hy
  rcases hy with rfl | rfl | rfl
  · exact (lay_int _).mono (by decide)
  · exact (lay_int _).mono (by decide)
  · refine lay_list fun z hz => ?_
    obtain ⟨e, _, rfl⟩ := List.mem_map.mp hz
    exact lay_ed e
theorem lay_ch (ch : Ch) : lay 5 (.list (chD ch)) := lay_list fun y hy => by
  obtain ⟨x, _, rfl⟩ := List.mem_map.mp hy
  exact lay_fn x
theorem noBs_map {α : Type} (f : α → D) (h : ∀ x, noB (f x) = true) : ∀ l : List α, noBs (l.map f) = true
  | [] => rfl
  | a :: l => by
    show (noB (f a) && noBs (l.map f)) = true
    rw [h a, noBs_map f h l]
    rfl
theorem noB_ed (e : Ed) : noB e.d = true := by
  cases e with
  | st p q c t =>
    show noBs [.str "step", .int p, .int q, .int c, .tuple (nD t)] = true
    simp [noBs, noB, noB_nD]
  | ca p q c g a b t =>
    show noBs [.str "call", .int p, .int q, .int c, .int g, .tuple (nD a), .tuple (nD b), .tuple (nD t)] = true
    simp [noBs, noB, noB_nD]
theorem noB_ch (ch : Ch) : noB (.list (chD ch)) = true := by
  show noBs (chD ch) = true
  refine noBs_map _ (fun x => ?_) ch
  show noBs [.int x.1, .int x.2.1, .list (x.2.2.map Ed.d)] = true
  have : noBs (x.2.2.map Ed.d) = true := noBs_map _ noB_ed _
  simp [noBs, noB, this]
theorem cmp_same {O T : Cs} {x y : U} {d : D} (hx : toD O T 3 x = some d) (hy : toD O T 3 y = some d) (hs : shp d = true) (hn : noB d = true) : cmpU O .eq x y T = some true ∧ cmpU O .ne x y T = some false := by
  have e : PyData.eqv d d = true := (eqv_iff d d hn hn).mpr rfl
  constructor
  · show (match toD O T 3 x, toD O T 3 y with | some a, some b => if shp a && shp b then some (PyData.eqv a b) else none | _, _ => none) = _
    rw [hx, hy]
    simp [hs, e]
  · unfold cmpU
    simp only [hx, hy]
    simp [hs, e]
theorem step_same {O T : Cs} : cmpU O .eq (.d (.str "step")) (.d (.str "step")) T = some true := (cmp_same (O := O) (T := T) (x := .d (.str "step")) (y := .d (.str "step")) rfl rfl (lay_step.shp (by decide)) rfl).1
theorem call_step {O T : Cs} : cmpU O .eq (.d (.str "call")) (.d (.str "step")) T = some false := by
  show (if shp (.str "call") && shp (.str "step") then some (PyData.eqv (.str "call") (.str "step")) else none) = _
  rw [lay_call.shp (by decide), lay_step.shp (by decide)]
  decide +kernel
/-- a comprehension that gives a cell of its own -/
theorem comp_ml {C : Cn} {O T : Cs} {ρ : Rho} {elt t : CE} {g : Tg} {it : IT} {own : List Nat} {us : List U} {w : Option Nat} {tt : Cs} {ds : List Y.D} (he : denI C O ρ it T = .ok ⟨us, w, tt⟩ T) (hw : ∀ acc, sameW O tt (T ++ [.lstU acc]) w = true) (hlen : ds.length = us.length) (h : ∀ (i : Nat) (u : U) (d : Y.D), us[i]? = some u → ds[i]? = some d → ∀ acc, Turn1 C O ρ elt t g own (T ++ [.lstU acc]) u (some (.d d))) (hl : us.length ≤ 1000000) :
    den C O ρ (.comp true elt g it t own) T = .ok (.ref (O.length + T.length)) (T ++ [.lst ds]) := by
  have hd : (ds.map fun d => some (U.d d)).filterMap id = ds.map .d := by
    induction ds generalizing us with
    | nil => rfl
    | cons a l ih => simp [List.filterMap_map, Function.comp_def]
  rw [den, he, R.bind_ok]
  refine (congrArg (fun r : R Unit => r.bind fun _ T' => compE O true T T') (comp_runI (ds.map fun d => some (U.d d)) hw (by simpa using hlen) (fun i u r h1 h2 acc => by
    rw [List.getElem?_map, Option.map_eq_some_iff] at h2
    obtain ⟨d, hd, rfl⟩ := h2
    exact h i u d h1 hd acc) hl)).trans ?_
  show compE O true T _ = _
  unfold compE
  have e5 : (T ++ [Cell.lstU ((ds.map fun d => some (U.d d)).filterMap id)])[T.length]? = some (.lstU ((ds.map fun d => some (U.d d)).filterMap id)) := by simp
  simp only [e5, hd]
  simp
def chartE (jp je : Nat) : CB := (.cons (.for_ (.tp (.cons (.nm 6) (.cons (.nm 7) .nil))) (.enumL (.slc false (.v 0) .skip (.c (.int 24)))) (.cons (.asg (.nm 4) (.call false jp (.cons (.v 7) (.cons (.c (.int 1)) (.cons (.bi false .len (.cons (.v 3) .nil)) .nil))) [])) (.cons (.ex (.mt false .append (.ix (.v 5) (.v 4)) (.cons (.call false je (.cons (.v 3) (.cons (.v 4) (.cons (.bin false .add (.v 7) (.bin false .mul (.c (.int 31)) (.v 6))) .nil))) []) .nil))) .nil))) (.cons (.ret (.comp false (.tup (.cons (.ix (.ix (.v 3) (.v 4)) (.c (.int 0))) (.cons (.ix (.ix (.v 3) (.v 4)) (.c (.int 1))) (.cons (.frz (.ix (.v 5) (.v 4))) .nil)))) (.nm 4) (.rng1 (.bi false .len (.cons (.v 3) .nil))) (.c (.bool true)) [4])) .nil))
def chartC (jp je : Nat) : CB := (.cons (.asg (.nm 5) (.comp true (.lst true .nil) (.nm 8) (.lst (.v 3)) (.c (.bool true)) [8])) (chartE jp je))
theorem chartB_eq (jp je : Nat) : chartB jp je = (.cons (.asg (.nm 2) (.ix (.lst false (.cons (.tup (.cons (.c (.int 3)) (.cons (.c (.int 4)) (.cons (.c (.int 4)) .nil)))) (.cons (.tup (.cons (.c (.int 6)) (.cons (.c (.int 10)) (.cons (.c (.int 6)) .nil)))) .nil))) (.bi false .int (.cons (.cmp .eq (.call false jp (.cons (.v 1) (.cons (.c (.int 0)) (.cons (.c (.int 6)) .nil))) []) (.c (.int 1))) .nil)))) (.cons (.asg (.nm 3) (.lst true .nil)) (.cons (.for_ (.nm 4) (.rng1 (.bin false .add (.c (.int 1)) (.call false jp (.cons (.v 1) (.cons (.c (.int 1)) (.cons (.ix (.v 2) (.c (.int 0))) .nil))) []))) (.cons (.ex (.mt false .append (.v 3) (.cons (.tup (.cons (.bin false .add (.c (.int 1)) (.call false jp (.cons (.v 1) (.cons (.bin false .add (.c (.int 10)) (.bin false .mul (.c (.int 2)) (.v 4))) (.cons (.ix (.v 2) (.c (.int 1))) .nil))) [])) (.cons (.bin false .add (.c (.int 1)) (.call false jp (.cons (.v 1) (.cons (.bin false .add (.c (.int 11)) (.bin false .mul (.c (.int 2)) (.v 4))) (.cons (.ix (.v 2) (.c (.int 2))) .nil))) [])) .nil))) .nil))) .nil)) (chartC jp je)))) := rfl
theorem sum_set1 (e : Ed) : ∀ (l : List (List Ed)) (f : Nat) (es : List Ed), l[f]? = some es → ((l.set f (es ++ [e])).map List.length).sum = (l.map List.length).sum + 1
  | [], f, es, h => by simp at h
  | a :: l, 0, es, h => by
    simp at h
    subst h
    simp
    omega
  | a :: l, f + 1, es, h => by
    have := sum_set1 e l f es (by simpa using h)
    rw [List.set_cons_succ, List.map_cons, List.map_cons, List.sum_cons, List.sum_cons, this]
    omega
theorem mem_sum : ∀ {l : List Nat} {x : Nat}, x ∈ l → x ≤ l.sum
  | [], _, h => by cases h
  | a :: l, x, h => by
    rw [List.sum_cons]
    rcases List.mem_cons.mp h with rfl | h
    · omega
    · have := mem_sum h
      omega
theorem chart_of (s : Sz) (hs : SzOk s) (ess : List (List Ed)) (hl : ess.length = s.length) (hk : ∀ f es, ess[f]? = some es → ∀ e ∈ es, EdOk s f e) (hm : (ess.map List.length).sum ≤ 24) : ChOk ((s.zip ess).map fun p => (p.1.1, p.1.2, p.2)) := by
  have e1 : chSz ((s.zip ess).map fun p => (p.1.1, p.1.2, p.2)) = s := by
    unfold chSz
    rw [List.map_map]
    have : ((fun x : Int × Int × List Ed => (x.1, x.2.1)) ∘ fun p : (Int × Int) × List Ed => (p.1.1, p.1.2, p.2)) = Prod.fst := by
      funext p
      rfl
    rw [this, List.map_fst_zip (by omega)]
  have e2 : manyE ((s.zip ess).map fun p => (p.1.1, p.1.2, p.2)) = (ess.map List.length).sum := by
    unfold manyE
    rw [List.map_map]
    have : ((fun x : Int × Int × List Ed => x.2.2.length) ∘ fun p : (Int × Int) × List Ed => (p.1.1, p.1.2, p.2)) = List.length ∘ Prod.snd := by
      funext p
      rfl
    rw [this, ← List.map_map, List.map_snd_zip (by omega)]
  refine ⟨by rw [e1]; exact hs, fun f x hx e he => ?_, by rw [e2]; exact hm⟩
  rw [e1]
  rw [List.getElem?_map, Option.map_eq_some_iff] at hx
  obtain ⟨p, hp, rfl⟩ := hx
  exact hk f p.2 (List.getElem?_zip_eq_some.mp hp).2 e he
section
variable {C : Cn} {O : Cs} {jp je : Nat}
abbrev ChartRt (u : U) (_ : Cs) : Prop := ∃ ch, ChOk ch ∧ u = .d (.list (chD ch))
theorem chart_app (hp : PickOk C jp) (he : EdgeOk C je) (s : Sz) (hs : SzOk s) (ess : List (List Ed)) (hl : ess.length = s.length) (hk : ∀ f es, ess[f]? = some es → ∀ e ∈ es, EdOk s f e) (hm : (ess.map List.length).sum ≤ 1000) (ua : U) (w1 w2 x4 x8 : Option U) (i v : Int) (nx bk ct : Rho → Cs → Prop) (rt : U → Cs → Prop)
    (hN : ∀ ess' : List (List Ed), ess'.length = s.length → (∀ f es, ess'[f]? = some es → ∀ e ∈ es, EdOk s f e) → (ess'.map List.length).sum = (ess.map List.length).sum + 1 → ∀ x4, nx [some ua, w1, w2, some (.ref O.length), x4, some (.ref (O.length + 1)), some (.d (.int i)), some (.d (.int v)), x8] (.lst (szD s) :: .lstU (refs O.length s.length) :: ess'.map lstE)) :
    Wp (denB C O (.cons (.asg (.nm 4) (.call false jp (.cons (.v 7) (.cons (.c (.int 1)) (.cons (.bi false .len (.cons (.v 3) .nil)) .nil))) [])) (.cons (.ex (.mt false .append (.ix (.v 5) (.v 4)) (.cons (.call false je (.cons (.v 3) (.cons (.v 4) (.cons (.bin false .add (.v 7) (.bin false .mul (.c (.int 31)) (.v 6))) .nil))) []) .nil))) .nil)) [some ua, w1, w2, some (.ref O.length), x4, some (.ref (O.length + 1)), some (.d (.int i)), some (.d (.int v)), x8] (.lst (szD s) :: .lstU (refs O.length s.length) :: ess.map lstE)) nx bk ct rt := by
  have hln : (szD s).length = s.length := by simp [szD]
  obtain ⟨s1, s6⟩ := hs.1
  have g0 : getC O (.lst (szD s) :: .lstU (refs O.length s.length) :: ess.map lstE) O.length = some (.lst (szD s)) := by simp
  have g1 : getC O (.lst (szD s) :: .lstU (refs O.length s.length) :: ess.map lstE) (O.length + 1) = some (.lstU (refs O.length s.length)) := by simp
  have hlen := lenB_ref g0
  rw [hln] at hlen
  obtain ⟨f, f0, f1, ef⟩ := hp O (.lst (szD s) :: .lstU (refs O.length s.length) :: ess.map lstE) v 1 (s.length : Int) (by omega)
  have hre := refs_at O.length s.length f f0 f1
  have hfl : f.toNat < ess.length := by omega
  have hes : ess[f.toNat]? = some ess[f.toNat] := List.getElem?_eq_getElem hfl
  generalize ess[f.toNat] = es at hes
  have hT : (.lst (szD s) :: .lstU (refs O.length s.length) :: ess.map lstE : Cs)[2 + f.toNat]? = some (.lst (es.map Ed.d)) := by
    rw [Nat.add_comm]
    simp [hes, lstE]
  have hlt := (List.getElem?_eq_some_iff.mp hT).1
  have g2 : getC O (.lst (szD s) :: .lstU (refs O.length s.length) :: ess.map lstE) (O.length + (2 + f.toNat)) = some (.lst (es.map Ed.d)) := by
    rw [getC_k, hT]
  have hxr := ixU_atU g1 hre
  obtain ⟨e, hok, ee⟩ := he O (.lst (szD s) :: .lstU (refs O.length s.length) :: ess.map lstE) O.length s f (v + 31 * i) hs g0 f0 f1
  have hesl : es.length ≤ 1000 := by
    have h1 : es.length ∈ ess.map List.length := List.mem_map.mpr ⟨es, List.mem_of_getElem? hes, rfl⟩
    have := mem_sum h1
    omega
  have hS : (.lst (szD s) :: .lstU (refs O.length s.length) :: ess.map lstE : Cs).set (2 + f.toNat) (.lst (es.map Ed.d ++ [e.d])) = .lst (szD s) :: .lstU (refs O.length s.length) :: (ess.set f.toNat (es ++ [e])).map lstE := by
    rw [Nat.add_comm 2]
    simp [List.map_set, lstE]
  have hap : mtU O false .append (.ref (O.length + (2 + f.toNat))) [.d e.d] (.lst (szD s) :: .lstU (refs O.length s.length) :: ess.map lstE) = .ok (.d .none) (.lst (szD s) :: .lstU (refs O.length s.length) :: (ess.set f.toNat (es ++ [e])).map lstE) := by
    rw [mtU_append]
    unfold appU
    simp only [g2]
    rw [if_pos (by simp [Y.sizeOk]; omega), setC_k, if_pos hlt, hS]
  have hty : tyU O (.lst (szD s) :: .lstU (refs O.length s.length) :: ess.map lstE) (.ref (O.length + (2 + f.toNat))) = some .list := by
    rw [tyU_ref, g2]
  have hfin := hN (ess.set f.toNat (es ++ [e])) (by simp [hl]) (fun f' es' h' e' he' => by
    rw [List.getElem?_set] at h'
    by_cases hff : f.toNat = f'
    · rw [if_pos hff, if_pos hfl] at h'
      cases h'
      rw [List.mem_append] at he'
      rcases he' with he' | he'
      · exact hff ▸ hk _ _ hes e' he'
      · simp at he'
        subst he'
        exact hff ▸ hok
    · rw [if_neg hff] at h'
      exact hk f' es' h' e' he') (sum_set1 e ess f.toNat es hes) (some (.d (.int f)))
  clear hN hS hT g0 g1 g2 hre hlt
  have hseti : ∀ T, den C O [some ua, w1, w2, some (.ref O.length), some (.d (.int f)), some (.ref (O.length + 1)), some (.d (.int i)), some (.d (.int v)), x8] (.ix (.v 5) (.v 4)) T = R.ofO T (ixU O (.ref (O.length + 1)) (.d (.int f)) T) := fun T => by simp
  generalize (.lst (szD s) :: .lstU (refs O.length s.length) :: (ess.set f.toNat (es ++ [e])).map lstE : Cs) = T2 at hfin hap
  generalize (.lst (szD s) :: .lstU (refs O.length s.length) :: ess.map lstE : Cs) = T1 at hap hxr hty ef ee hlen ⊢
  generalize O.length + (2 + f.toNat) = kk at hap hxr hty
  generalize (s.length : Int) = ln at hlen ef
  generalize O.length + 1 = k1 at hxr hfin ⊢
  have m1 : mulOk 31 i = true := mul_okL (by decide)
  simp [hlen, ef, hxr, hty, m1, ee, hap]
  exact hfin
theorem chart_fin (s : Sz) (hs : SzOk s) (ess : List (List Ed)) (hl : ess.length = s.length) (hk : ∀ f es, ess[f]? = some es → ∀ e ∈ es, EdOk s f e) (hm : (ess.map List.length).sum ≤ 24) (ρ : Rho) (h3 : ρ[3]? = some (some (.ref O.length))) (h5 : ρ[5]? = some (some (.ref (O.length + 1)))) (h4 : 4 < ρ.length) (nx bk ct : Rho → Cs → Prop) :
    Wp (denB C O (.cons (.ret (.comp false (.tup (.cons (.ix (.ix (.v 3) (.v 4)) (.c (.int 0))) (.cons (.ix (.ix (.v 3) (.v 4)) (.c (.int 1))) (.cons (.frz (.ix (.v 5) (.v 4))) .nil)))) (.nm 4) (.rng1 (.bi false .len (.cons (.v 3) .nil))) (.c (.bool true)) [4])) .nil) ρ (.lst (szD s) :: .lstU (refs O.length s.length) :: ess.map lstE)) nx bk ct ChartRt := by
  obtain ⟨T', e⟩ := chart_end (C := C) s hs ess hl ρ h3 h5 h4
  rw [wp_cons, denS_ret, e]
  exact ⟨_, chart_of s hs ess hl hk hm, rfl⟩
theorem chart_rest (hp : PickOk C jp) (he : EdgeOk C je) (s : Sz) (hs : SzOk s) (ua : U) (cells : List Int) (hsl : ∀ T, slcU O false ua none (some 24) T = .ok (.d (.list ((cells.take 24).map .int))) T) (w1 w2 x4 x6 x7 x8 : Option U) (x5 : Option U) (nx bk ct : Rho → Cs → Prop) :
    Wp (denB C O (chartC jp je) [some ua, w1, w2, some (.ref O.length), x4, x5, x6, x7, x8] [.lst (szD s)]) nx bk ct ChartRt := by
  unfold chartC
  have e0 := edges0 (C := C) (O := O) s hs [some ua, w1, w2, some (.ref O.length), x4, x5, x6, x7, x8] rfl (by simp)
  rw [wp_cons, wpS_asg, e0]
  simp only [F.of_ok, asgT_nm, List.set_cons_zero, List.set_cons_succ, wp_nx, Kc_eq]
  unfold chartE
  rw [wp_cons]
  refine wp_for ⟨((cells.take 24).map fun c => U.d (.int c)).zipIdx.map fun p => mkT [.d (.int (p.2 : Nat)), p.1], none, .lst (szD s) :: .lstU (refs O.length s.length) :: List.replicate s.length (lstE [])⟩ (.lst (szD s) :: .lstU (refs O.length s.length) :: List.replicate s.length (lstE [])) (fun i ρ T => ∃ (ess : List (List Ed)) (x4 x6 x7 : Option U), ess.length = s.length ∧ (∀ f es, ess[f]? = some es → ∀ e ∈ es, EdOk s f e) ∧ (ess.map List.length).sum = i ∧ T = .lst (szD s) :: .lstU (refs O.length s.length) :: ess.map lstE ∧ ρ = [some ua, w1, w2, some (.ref O.length), x4, some (.ref (O.length + 1)), x6, x7, x8]) ?_ ?_ (by simp) ?_ ?_
  · have hsl' := hsl (.lst (szD s) :: .lstU (refs O.length s.length) :: List.replicate s.length (lstE []))
    simp [hsl']
    rfl
  · refine ⟨List.replicate s.length [], x4, x6, x7, by simp, fun f es h e he => ?_, by simp, by simp, rfl⟩
    rw [List.getElem?_replicate] at h
    split at h
    · cases h
      cases he
    · cases h
  · rintro i u hu ρ T ⟨ess, x4, x6, x7, hl, hk, hsm, rfl, rfl⟩
    have hi : i < (cells.take 24).length := by
      have := (List.getElem?_eq_some_iff.mp hu).1
      simpa using this
    have hu' : ∃ v : Int, u = .d (.tuple [.int (i : Nat), .int v]) := by
      rw [List.getElem?_map, List.getElem?_zipIdx, List.getElem?_map, List.getElem?_eq_getElem hi] at hu
      simp at hu
      exact ⟨_, hu.symm⟩
    obtain ⟨v, rfl⟩ := hu'
    have hi24 : i < 24 := by
      have : (cells.take 24).length ≤ 24 := List.length_take_le _ _
      omega
    refine ⟨_, rfl, ?_⟩
    exact chart_app hp he s hs ess hl hk (by omega) ua w1 w2 x4 x8 (i : Int) v _ _ _ _ fun ess' h1 h2 h3 x4 => ⟨ess', x4, _, _, h1, h2, by rw [h3, hsm], rfl, rfl⟩
  · rintro ρ T ⟨ess, x4, x6, x7, hl, hk, hsm, rfl, rfl⟩
    refine chart_fin s hs ess hl hk ?_ _ rfl rfl (by simp) _ _ _
    rw [hsm]
    have : (cells.take 24).length ≤ 24 := List.length_take_le _ _
    simp only [List.length_map, List.length_zipIdx]
    exact this
end
@[simp] theorem intB_bool (T : Cs) (b : Bool) : intB T (.d (.bool b)) = .ok (.d (.int (if b then 1 else 0))) T := rfl
def ChartOk (C : Cn) (jc : Nat) : Prop := ∀ (O T : Cs) (cells : List Int) (way : Int), ∃ ch, ChOk ch ∧ callP C O jc [.d (.list (cells.map .int)), .d (.int way)] T = .ok (.d (.list (chD ch))) T
theorem chart_run {G : Pg} {jp je jc : Nat} (hG : G.defs jc = some ⟨2, 9, chartB jp je⟩) (n : Nat) (hp : PickOk (cn G n) jp) (he : EdgeOk (cn G n) je) : ChartOk (cn G (n + 1)) jc := by
  intro O T cells way
  suffices hg : Gv (Y.run G (n + 1) (O ++ T) jc [.d (.list (cells.map .int)), .d (.int way)] []) ChartRt by
    obtain ⟨u, T', e, ch, h1, rfl⟩ := hg.ex
    exact ⟨ch, h1, callP_r O T e⟩
  refine run_wp hG rfl ?_
  generalize O ++ T = O
  generalize cn G n = C at hp he ⊢
  have hsl : ∀ T, slcU O false (.d (.list (cells.map .int))) none (some 24) T = .ok (.d (.list ((cells.take 24).map .int))) T := by
    intro T
    rw [slcU_L, cut_to _ _ (by decide)]
    show mkL O false ((List.take 24 (cells.map PyData.int)).map U.d) T = _
    rw [← List.map_take]
    unfold mkL
    rw [if_neg (by decide), allD_map]
  have hrest := fun s hs => chart_rest hp he s hs (.d (.list (cells.map .int))) cells hsl
  rw [chartB_eq]
  obtain ⟨ua, hua⟩ : ∃ ua : U, ua = .d (.list (cells.map .int)) := ⟨_, rfl⟩
  rw [← hua] at hrest ⊢
  clear hsl
  obtain ⟨r0, a00, a01, e0⟩ := hp O [] way 0 6 (by decide)
  have hmost : ∃ a b c : Int, L2.atI [PyData.tuple [.int 3, .int 4, .int 4], .tuple [.int 6, .int 10, .int 6]] (if r0 = 1 then 1 else 0) = some (.tuple [.int a, .int b, .int c]) ∧ (1 ≤ a ∧ a ≤ 6) ∧ (1 ≤ b ∧ b ≤ 10) ∧ 1 ≤ c ∧ c ≤ 6 := by
    by_cases h : r0 = 1
    · rw [if_pos h]
      exact ⟨6, 10, 6, rfl, by omega, by omega, by omega⟩
    · rw [if_neg h]
      exact ⟨3, 4, 4, rfl, by omega, by omega, by omega⟩
  obtain ⟨a, b, c, hm, ha, hb, hc⟩ := hmost
  have t0 : L2.atI [PyData.int a, .int b, .int c] 0 = some (.int a) := rfl
  have t1 : L2.atI [PyData.int a, .int b, .int c] 1 = some (.int b) := rfl
  have t2 : L2.atI [PyData.int a, .int b, .int c] 2 = some (.int c) := rfl
  obtain ⟨r1, a10, a11, e1⟩ := hp O [.lst []] way 1 a (by omega)
  generalize hK : chartC jp je = K at hrest ⊢
  simp only [List.map_cons, List.map_nil, List.length_cons, List.length_nil, List.replicate, List.cons_append, List.nil_append, wp_cons, wpS_asg]
  simp [e0, hm]
  have hro : rngOk 0 (1 + r1) = true := by simp [rngOk]; omega
  refine wp_for ⟨rngU 0 (1 + r1).toNat 1, none, [.lst []]⟩ [.lst []] (fun i ρ T => ∃ (sz : Sz) (x4 : Option U), sz.length = i ∧ (∀ p ∈ sz, 1 ≤ p.1 ∧ p.1 ≤ 10 ∧ 1 ≤ p.2 ∧ p.2 ≤ 6) ∧ T = [.lst (szD sz)] ∧ ρ = [some ua, some (.d (.int way)), some (.d (.tuple [.int a, .int b, .int c])), some (.ref O.length), x4, none, none, none, none]) ?_ ?_ (by simp) ?_ ?_
  · refine rng1_ok (z := 1 + r1) ?_ hro rfl
    simp [t0, e1]
  · exact ⟨[], none, rfl, by simp, rfl, rfl⟩
  · rintro i u hu ρ T ⟨sz, x4, hl, hsz, rfl, rfl⟩
    obtain ⟨hi, rfl⟩ := rngU_get hu
    obtain ⟨iI, hiI⟩ : ∃ iI : Int, iI = (i : Int) := ⟨_, rfl⟩
    have hw0 : (0 + ((i : Nat) : Int) * 1) = iI := by omega
    rw [hw0]
    refine ⟨_, rfl, ?_⟩
    obtain ⟨p, p0, p1, ep⟩ := hp O [.lst (szD sz)] way (10 + 2 * iI) b (by omega)
    obtain ⟨q, q0, q1, eq⟩ := hp O [.lst (szD sz)] way (11 + 2 * iI) c (by omega)
    have m1 : mulOk 2 iI = true := mul_okL (by decide)
    have hlen : (szD sz).length ≤ 1000000 := by simp [szD]; omega
    have hsn : ∃ sz' : Sz, szD sz ++ [.tuple [.int (1 + p), .int (1 + q)]] = szD sz' ∧ sz'.length = i + 1 ∧ ∀ p ∈ sz', 1 ≤ p.1 ∧ p.1 ≤ 10 ∧ 1 ≤ p.2 ∧ p.2 ≤ 6 := by
      refine ⟨sz ++ [(1 + p, 1 + q)], by simp [szD], by simp [hl], fun x hx => ?_⟩
      rw [List.mem_append] at hx
      rcases hx with hx | hx
      · exact hsz x hx
      · simp at hx
        subst hx
        exact ⟨by omega, by omega, by omega, by omega⟩
    obtain ⟨sz', h1, h2, h3⟩ := hsn
    generalize szD sz = R at h1 ep eq hlen
    simp [t1, t2, m1, ep, eq, hlen, h1]
    exact ⟨sz', h2, fun a b hab => h3 (a, b) hab, rfl⟩
  · rintro ρ T ⟨sz, x4, hl, hsz, rfl, rfl⟩
    have hl : sz.length = (1 + r1).toNat := by rw [hl]; exact rngU_len
    exact hrest sz ⟨⟨by omega, by omega⟩, hsz⟩ _ _ _ _ _ _ _ _ _ _
end Y

set_option Elab.async false
set_option linter.all false
set_option maxRecDepth 100000
set_option maxHeartbeats 4000000
namespace Y
open PySem
/-- the cell r holds another number, and there are cells behind -/
def Chg (O : Cs) (r : Nat) (T T' : Cs) : Prop := ∃ (s : Int) (g : Cs), T' = T.set (r - O.length) (.lst [.int s]) ++ g
structure StAt (O T : Cs) (r : Nat) : Prop where
  lo : O.length ≤ r
  at_ : ∃ s : Int, T[r - O.length]? = some (.lst [.int s])
theorem StAt.get {O T : Cs} {r : Nat} (h : StAt O T r) : ∃ s : Int, getC O T r = some (.lst [.int s]) ∧ r - O.length < T.length := by
  obtain ⟨s, hs⟩ := h.at_
  refine ⟨s, ?_, (List.getElem?_eq_some_iff.mp hs).1⟩
  have : r = O.length + (r - O.length) := by have := h.lo; omega
  rw [this, getC_k]
  exact hs
theorem StAt.chg {O T T' : Cs} {r : Nat} (h : StAt O T r) (c : Chg O r T T') : StAt O T' r := by
  obtain ⟨s, hs⟩ := h.at_
  obtain ⟨s', g, rfl⟩ := c
  have hlt := (List.getElem?_eq_some_iff.mp hs).1
  refine ⟨h.lo, s', ?_⟩
  rw [List.getElem?_append_left (by simpa using hlt), List.getElem?_set_self hlt]
theorem Chg.trans {O T T' T'' : Cs} {r : Nat} (h : StAt O T r) (c : Chg O r T T') (c' : Chg O r T' T'') : Chg O r T T'' := by
  obtain ⟨s, hs⟩ := h.at_
  have hlt := (List.getElem?_eq_some_iff.mp hs).1
  obtain ⟨s', g, rfl⟩ := c
  obtain ⟨s'', g', rfl⟩ := c'
  refine ⟨s'', g ++ g', ?_⟩
  rw [List.set_append_left (h := by simpa using hlt), List.set_set, List.append_assoc]
/-- other cells stay -/
theorem Chg.get {O T T' : Cs} {r i : Nat} {c : Cell} (h : Chg O r T T') (hr : O.length ≤ r) (hi : i ≠ r) (hc : getC O T i = some c) : getC O T' i = some c := by
  obtain ⟨s, g, rfl⟩ := h
  rw [getC_eq] at hc ⊢
  by_cases hO : i < O.length
  · rw [List.getElem?_append_left hO] at hc ⊢
    exact hc
  · rw [List.getElem?_append_right (by omega)] at hc ⊢
    have hlt := (List.getElem?_eq_some_iff.mp hc).1
    rw [List.getElem?_append_left (by simpa using hlt), List.getElem?_set_ne (by omega)]
    exact hc
theorem chg_len {O T T' : Cs} {r : Nat} (h : Chg O r T T') : T.length ≤ T'.length := by
  obtain ⟨s, g, rfl⟩ := h
  simp
def nextB : CB := (.cons (.seti (.v 0) (.c (.int 0)) (.bin false .mod (.bin false .add (.bin false .mul (.ix (.v 0) (.c (.int 0))) (.c (.int 69621))) (.c (.int 40503))) (.c (.int 2147483647))))
 (.cons (.ret (.bin false .mod (.bin false .fdiv (.ix (.v 0) (.c (.int 0))) (.c (.int 11))) (.v 1)))
 .nil))
def NextOk (C : Cn) (jn : Nat) : Prop := ∀ (O T : Cs) (r : Nat) (m : Int), StAt O T r → 0 < m → ∃ (v s : Int), 0 ≤ v ∧ v < m ∧ C.call O jn [.ref r, .d (.int m)] T = .ok (.d (.int v)) (T.set (r - O.length) (.lst [.int s]))
theorem next_run {G : Pg} {jn : Nat} (hG : G.defs jn = some ⟨2, 2, nextB⟩) (n : Nat) : NextOk (cn G (n + 1)) jn := by
  intro O T r m hs hm
  suffices hg : Gv (Y.run G (n + 1) O jn [.ref r, .d (.int m)] T) fun u T' => ∃ (v s : Int), 0 ≤ v ∧ v < m ∧ u = .d (.int v) ∧ T' = T.set (r - O.length) (.lst [.int s]) by
    obtain ⟨u, T', e, v, s, h1, h2, rfl, rfl⟩ := hg.ex
    exact ⟨v, s, h1, h2, e⟩
  refine run_wp hG rfl ?_
  obtain ⟨s, hg, hlt⟩ := hs.get
  have hlo := hs.lo
  have ix0 : ixU O (.ref r) (.d (.int 0)) T = some (.d (.int s)) := ixU_at hg rfl
  have m1 : mulOk s 69621 = true := mul_ok (by decide)
  obtain ⟨s', hs'⟩ : ∃ s' : Int, s' = (s * 69621 + 40503) % 2147483647 := ⟨_, rfl⟩
  have hset : setiU O (.ref r) (.d (.int 0)) (.d (.int s')) T = .ok (.d .none) (T.set (r - O.length) (.lst [.int s'])) := by
    unfold setiU
    simp only [hg]
    show setC O T r (.lst [.int s']) = _
    unfold setC
    rw [if_pos ⟨hlo, by omega⟩]
  have hg' : getC O (T.set (r - O.length) (.lst [.int s'])) r = some (.lst [.int s']) := by
    have : r = O.length + (r - O.length) := by omega
    rw [this, getC_k]
    rw [show O.length + (r - O.length) - O.length = r - O.length by omega, List.getElem?_set_self hlt]
  have ix1 : ixU O (.ref r) (.d (.int 0)) (T.set (r - O.length) (.lst [.int s'])) = some (.d (.int s')) := ixU_at hg' rfl
  generalize hT : T.set (r - O.length) (.lst [.int s']) = T' at hset ix1
  unfold nextB
  rw [wp_cons]
  simp [ix0, m1, ← hs', hset, ix1, hm]
  exact ⟨_, Int.emod_nonneg _ (by omega), Int.emod_lt_of_pos _ hm, rfl, s', hT.symm⟩
theorem NextOk.chg {C : Cn} {jn : Nat} (h : NextOk C jn) (O T : Cs) (r : Nat) (m : Int) (hs : StAt O T r) (hm : 0 < m) : ∃ (v : Int) (T' : Cs), 0 ≤ v ∧ v < m ∧ StAt O T' r ∧ Chg O r T T' ∧ C.call O jn [.ref r, .d (.int m)] T = .ok (.d (.int v)) T' := by
  obtain ⟨v, s, h1, h2, e⟩ := h O T r m hs hm
  have hc : Chg O r T (T.set (r - O.length) (.lst [.int s])) := ⟨s, [], by simp⟩
  exact ⟨v, _, h1, h2, hs.chg hc, hc, e⟩
def costB (jn : Nat) : CB := (.cons (.ite (.cmp .gt (.call true jn (.cons (.v 0) (.cons (.c (.int 4)) .nil)) []) (.c (.int 0))) (.cons (.ret (.bin false .add (.c (.int 1)) (.call true jn (.cons (.v 0) (.cons (.c (.int 9)) .nil)) [])))
  .nil) .nil)
 (.cons (.ret (.bin false .add (.c (.int 1)) (.bin false .mod (.bin false .add (.bin false .mul (.call true jn (.cons (.v 0) (.cons (.bin false .pow (.c (.int 10)) (.c (.int 8))) .nil)) []) (.bin false .pow (.c (.int 10)) (.c (.int 10)))) (.bin false .mul (.call true jn (.cons (.v 0) (.cons (.bin false .pow (.c (.int 10)) (.c (.int 8))) .nil)) []) (.c (.int 239)))) (.bin false .pow (.c (.int 10)) (.c (.int 18))))))
 .nil))
def CostOk (C : Cn) (jc : Nat) : Prop := ∀ (O T : Cs) (r : Nat), StAt O T r → ∃ (v : Int) (T' : Cs), 1 ≤ v ∧ v ≤ 1000000000000000000 ∧ StAt O T' r ∧ Chg O r T T' ∧ C.call O jc [.ref r] T = .ok (.d (.int v)) T'
theorem cost_run {G : Pg} {jn jc : Nat} (hG : G.defs jc = some ⟨1, 1, costB jn⟩) (n : Nat) (hn : NextOk (cn G n) jn) : CostOk (cn G (n + 1)) jc := by
  intro O T r hs
  suffices hg : Gv (Y.run G (n + 1) O jc [.ref r] T) fun u T' => ∃ (v : Int), 1 ≤ v ∧ v ≤ 1000000000000000000 ∧ u = .d (.int v) ∧ Chg O r T T' by
    obtain ⟨u, T', e, v, h1, h2, rfl, hc⟩ := hg.ex
    exact ⟨v, T', h1, h2, hs.chg hc, hc, e⟩
  refine run_wp hG rfl ?_
  obtain ⟨v1, T1, a0, a1, s1, c1, e1⟩ := hn.chg O T r 4 hs (by decide)
  obtain ⟨v2, T2, b0, b1, s2, c2, e2⟩ := hn.chg O T1 r 9 s1 (by decide)
  obtain ⟨v3, T3, d0, d1, s3, c3, e3⟩ := hn.chg O T1 r 100000000 s1 (by decide)
  obtain ⟨v4, T4, f0, f1, s4, c4, e4⟩ := hn.chg O T3 r 100000000 s3 (by decide)
  have m1 : mulOk v3 10000000000 = true := mul_ok (by decide)
  have m2 : mulOk v4 239 = true := mul_ok (by decide)
  generalize cn G n = C at *
  unfold costB
  simp [e1, e2, e3, e4, m1, m2]
  exact ⟨fun _ => ⟨1 + v2, by omega, by omega, rfl, c1.trans hs c2⟩, fun _ => ⟨1 + (v3 * 10000000000 + v4 * 239) % 1000000000000000000, by omega, by omega, rfl, (c1.trans hs c3).trans hs c4⟩⟩
def tableNB (jn : Nat) : CB := (.cons (.asg (.nm 3) (.lst true .nil))
 (.cons (.for_ (.nm 4) (.rng1 (.v 1)) (.cons (.asg (.nm 5) (.bin false .bor (.bin false .band (.call true jn (.cons (.v 0) (.cons (.bin false .shl (.c (.int 1)) (.v 2)) .nil)) []) (.call true jn (.cons (.v 0) (.cons (.bin false .shl (.c (.int 1)) (.v 2)) .nil)) [])) (.bin false .shl (.c (.int 1)) (.bin false .mod (.v 4) (.v 2)))))
  (.cons (.ex (.mt false .append (.v 3) (.cons (.bin false .mul (.v 5) (.bi false .int (.cons (.or (.cmp .eq (.v 4) (.c (.int 0))) (.cmp .gt (.call true jn (.cons (.v 0) (.cons (.c (.int 5)) .nil)) []) (.c (.int 0)))) .nil))) .nil)))
  .nil)))
 (.cons (.ret (.bi false .tuple (.cons (.v 3) .nil)))
 .nil)))
def TableNOk (C : Cn) (jt : Nat) : Prop := ∀ (O T : Cs) (r : Nat) (nn to : Int), StAt O T r → 0 ≤ nn → nn ≤ 6 → 1 ≤ to → to ≤ 6 → ∃ (tb : List Nat) (T' : Cs), TbIn tb nn to ∧ StAt O T' r ∧ Chg O r T T' ∧ C.call O jt [.ref r, .d (.int nn), .d (.int to)] T = .ok (.d (.tuple (nD tb))) T'
theorem Chg.setb {O T T' : Cs} {r i : Nat} {c : Cell} (h : Chg O r T T') (hi : T.length ≤ i) : Chg O r T (T'.set i c) := by
  obtain ⟨s, g, rfl⟩ := h
  refine ⟨s, g.set (i - T.length) c, ?_⟩
  rw [List.set_append_right (h := by simpa using hi), List.length_set]
theorem StAt.setb {O T : Cs} {r i : Nat} {c : Cell} (h : StAt O T r) (hi : i ≠ r - O.length) : StAt O (T.set i c) r := by
  obtain ⟨s, hs⟩ := h.at_
  exact ⟨h.lo, s, by rw [List.getElem?_set_ne hi]; exact hs⟩
theorem StAt.app {O T : Cs} {r : Nat} (h : StAt O T r) (g : Cs) : StAt O (T ++ g) r := by
  obtain ⟨s, hs⟩ := h.at_
  exact ⟨h.lo, s, by rw [List.getElem?_append_left (List.getElem?_eq_some_iff.mp hs).1]; exact hs⟩
theorem Chg.app {O T : Cs} {r : Nat} (h : StAt O T r) (g : Cs) : Chg O r T (T ++ g) := by
  obtain ⟨s, hs⟩ := h.at_
  refine ⟨s, g, ?_⟩
  congr 1
  apply List.ext_getElem?
  intro i
  by_cases hi : r - O.length = i
  · subst hi
    rw [hs, List.getElem?_set_self (List.getElem?_eq_some_iff.mp hs).1]
  · rw [List.getElem?_set_ne hi]
theorem app_at {O T : Cs} {j : Nat} {ds : List D} (v : D) (h : getC O T j = some (.lst ds)) (hl : ds.length ≤ 1000000) (h1 : O.length ≤ j) : appU O j (.d v) T = .ok (.d .none) (T.set (j - O.length) (.lst (ds ++ [v]))) := by
  have h2 : j < O.length + T.length := by
    rw [getC_eq] at h
    have := (List.getElem?_eq_some_iff.mp h).1
    simpa using this
  unfold appU
  simp only [h]
  rw [if_pos (by simpa [Y.sizeOk] using hl)]
  unfold setC
  rw [if_pos ⟨h1, h2⟩]
theorem set_get {O T : Cs} {j : Nat} {c c' : Cell} (h : getC O T j = some c) (h1 : O.length ≤ j) : getC O (T.set (j - O.length) c') j = some c' := by
  rw [getC_eq] at h ⊢
  rw [List.getElem?_append_right h1] at h ⊢
  exact List.getElem?_set_self (List.getElem?_eq_some_iff.mp h).1
theorem tableN_run {G : Pg} {jn jt : Nat} (hG : G.defs jt = some ⟨3, 6, tableNB jn⟩) (n : Nat) (hn : NextOk (cn G n) jn) : TableNOk (cn G (n + 1)) jt := by
  intro O T r nn to hs n0 n6 t1 t6
  suffices hg : Gv (Y.run G (n + 1) O jt [.ref r, .d (.int nn), .d (.int to)] T) fun u T' => ∃ (tb : List Nat), TbIn tb nn to ∧ u = .d (.tuple (nD tb)) ∧ StAt O T' r ∧ Chg O r T T' by
    obtain ⟨u, T', e, tb, h1, rfl, h2, hc⟩ := hg.ex
    exact ⟨tb, T', h1, h2, hc, e⟩
  refine run_wp hG rfl ?_
  have hnc := hn.chg
  generalize cn G n = C at hnc ⊢
  have hrl : r - O.length < T.length := by
    obtain ⟨s, hs'⟩ := hs.at_
    exact (List.getElem?_eq_some_iff.mp hs').1
  have hlo := hs.lo
  obtain ⟨k, hk⟩ : ∃ k, k = O.length + T.length := ⟨_, rfl⟩
  have hro : rngOk 0 nn = true := by simp [rngOk]; omega
  have hM : (0 : Int) < 2 ^ to.toNat := Int.pow_pos (by decide)
  have hto : 0 ≤ to ∧ to ≤ 1000 := by omega
  unfold tableNB
  rw [wp_cons]
  simp
  rw [← hk]
  refine wp_for ⟨rngU 0 nn.toNat 1, none, T ++ [.lst []]⟩ (T ++ [.lst []]) (fun i ρ T' => ∃ (rows : List Nat) (x y : Option U), rows.length = i ∧ (∀ r ∈ rows, r < 2 ^ to.toNat) ∧ StAt O T' r ∧ Chg O r T T' ∧ getC O T' k = some (.lst (nD rows)) ∧ ρ = [some (.ref r), some (.d (.int nn)), some (.d (.int to)), some (.ref k), x, y]) ?_ ?_ (fun _ _ _ _ => rfl) ?_ ?_
  · refine rng1_ok (z := nn) ?_ hro rfl
    simp
  · exact ⟨[], none, none, rfl, by simp, hs.app _, Chg.app hs _, by rw [hk, getC_k]; simp [nD], rfl⟩
  · rintro i u hu ρ T' ⟨rows, x, y, hrl', hrb, hs', hc', hgk, rfl⟩
    obtain ⟨hi, rfl⟩ := rngU_get hu
    obtain ⟨iI, hiI⟩ : ∃ iI : Int, iI = (i : Int) := ⟨_, rfl⟩
    have hw0 : (0 + ((i : Nat) : Int) * 1) = iI := by omega
    rw [hw0]
    refine ⟨_, rfl, ?_⟩
    obtain ⟨v1, T1, a0, a1, s1, c1, e1⟩ := hnc O T' r (2 ^ to.toNat) hs' hM
    obtain ⟨v2, T2, b0, b1, s2, c2, e2⟩ := hnc O T1 r (2 ^ to.toNat) s1 hM
    obtain ⟨v3, T3, d0, d1, s3, c3, e3⟩ := hnc O T2 r 5 s2 (by decide)
    have hkr : k ≠ r := by omega
    have k2 := c2.get s1.lo hkr (c1.get hs'.lo hkr hgk)
    have k3 := c3.get s2.lo hkr k2
    have hlen : (nD rows).length ≤ 1000000 := by simp [nD, nI]; omega
    have ht0 : 0 < to := by omega
    have hmod : 0 ≤ iI % to ∧ iI % to ≤ 1000 := ⟨Int.emod_nonneg _ (by omega), by have := Int.emod_lt_of_pos iI ht0; omega⟩
    have hpw := pow_b (a := (iI % to).toNat) (t := to.toNat) (by have := Int.emod_lt_of_pos iI ht0; omega)
    have q1 := band_b a0 a1 b0
    have q2 := bor_b q1.1 q1.2 hpw.1 hpw.2
    obtain ⟨w, hw⟩ : ∃ w : Int, w = Builtin.bitOr (Builtin.bitAnd v1 v2) (2 ^ (iI % to).toNat) := ⟨_, rfl⟩
    rw [← hw] at q2
    have hcc := (c1.trans hs' c2)
    have hfin : ∀ (b : Bool) (Tx : Cs), StAt O Tx r → Chg O r T Tx → getC O Tx k = some (.lst (nD rows)) → ∃ rows' : List Nat, rows'.length = i + 1 ∧ (∀ r ∈ rows', r < 2 ^ to.toNat) ∧ StAt O (Tx.set (k - O.length) (.lst (nD rows ++ [.int (w * (if b = true then 1 else 0))]))) r ∧ Chg O r T (Tx.set (k - O.length) (.lst (nD rows ++ [.int (w * (if b = true then 1 else 0))]))) ∧ getC O (Tx.set (k - O.length) (.lst (nD rows ++ [.int (w * (if b = true then 1 else 0))]))) k = some (.lst (nD rows')) := by
      intro b Tx hsx hcx hgx
      have hv : 0 ≤ w * (if b = true then 1 else 0) ∧ w * (if b = true then 1 else 0) < 2 ^ to.toNat := by
        cases b
        · simp [hM]
        · simp [q2]
      refine ⟨rows ++ [(w * (if b = true then 1 else 0)).toNat], by simp [hrl'], fun r hr => ?_, hsx.setb (by omega), hcx.setb (by omega), ?_⟩
      · rw [List.mem_append] at hr
        rcases hr with hr | hr
        · exact hrb r hr
        · simp only [List.mem_singleton] at hr
          subst hr
          have e : ((2 : Int) ^ to.toNat) = ((2 ^ to.toNat : Nat) : Int) := by simp
          rw [e] at hv
          omega
      · rw [set_get hgx (by omega), snocN rows _ hv.1]
    have mo : ∀ b : Bool, mulOk w (if b = true then 1 else 0) = true := fun b => mul_ok (by cases b <;> decide)
    have ty2 : tyU O T2 (.ref k) = some .list := by rw [tyU_ref, k2]
    have a2 := fun v => app_at (O := O) v k2 hlen (by omega)
    have a3 := fun v => app_at (O := O) v k3 hlen (by omega)
    have f2 := hfin true T2 s2 (hc'.trans hs hcc) k2
    have f3 := fun b => hfin b T3 s3 ((hc'.trans hs hcc).trans hs c3) k3
    clear hu hw0 hfin
    generalize nD rows = R at *
    by_cases hz : iI = 0
    · have m1 := mo true
      simp only [if_true] at m1 f2
      simp [m1, hto, ht0, hmod, e1, e2, ← hw, ty2, -tyU_ref, -appU_eq, a2]
      exact ⟨fun _ => by simpa using f2, fun h => absurd hz h⟩
    · have m3 := mo (decide (0 < v3))
      have f3 := f3 (decide (0 < v3))
      simp only [decide_eq_true_eq] at m3 f3
      simp [hz, hto, ht0, hmod, e1, e2, ← hw, ty2, -tyU_ref, -appU_eq, e3, m3, a3]
      simpa using f3
  · rintro ρ T' ⟨rows, x, y, hrl', hrb, hs', hc', hgk, rfl⟩
    simp only [rngU_len] at hrl'
    have htb : tupleB O T' (.ref k) = .ok (.d (.tuple (nD rows))) T' := by
      rw [tupleB_ref, seqL_ref, hgk]
      simp
    simp [htb]
    exact ⟨rows, ⟨hrl', hrb⟩, rfl, hs', hc'⟩
theorem comp_m0 {C : Cn} {O T T0 : Cs} {ρ : Rho} {elt t : CE} {g : Tg} {it : IT} {own : List Nat} {us : List U} {w : Option Nat} {tt : Cs} {ds : List Y.D} (he : denI C O ρ it T = .ok ⟨us, w, tt⟩ T0) (hw : ∀ acc, sameW O tt (T0 ++ [.lstU acc]) w = true) (hlen : ds.length = us.length) (h : ∀ (i : Nat) (u : U) (d : Y.D), us[i]? = some u → ds[i]? = some d → ∀ acc, Turn1 C O ρ elt t g own (T0 ++ [.lstU acc]) u (some (.d d))) (hl : us.length ≤ 1000000) :
    den C O ρ (.comp false elt g it t own) T = .ok (.d (.list ds)) T0 := by
  have hd : (ds.map fun d => some (U.d d)).filterMap id = ds.map .d := by
    clear he hw hlen h hl
    induction ds with
    | nil => rfl
    | cons a l ih => simp [List.filterMap_map, Function.comp_def]
  rw [den, he, R.bind_ok]
  refine (congrArg (fun r : R Unit => r.bind fun _ T' => compE O false T0 T') (comp_runI (ds.map fun d => some (U.d d)) hw (by simpa using hlen) (fun i u r h1 h2 acc => by
    rw [List.getElem?_map, Option.map_eq_some_iff] at h2
    obtain ⟨d, hd, rfl⟩ := h2
    exact h i u d h1 hd acc) hl)).trans ?_
  show compE O false T0 _ = _
  unfold compE
  have e5 : (T0 ++ [Cell.lstU ((ds.map fun d => some (U.d d)).filterMap id)])[T0.length]? = some (.lstU ((ds.map fun d => some (U.d d)).filterMap id)) := by simp
  simp only [e5, hd, allD_map]
  simp [beqCs_r]
def edgeR (jn jc jt : Nat) (mk : Int) : CB := (.cons (.asg (.nm 9) (.call true jc (.cons (.v 4) .nil) [])) (.cons (.ite (.cmp .gt (.call true jn (.cons (.v 4) (.cons (.v 3) .nil)) []) (.c (.int 0))) (.cons (.ret (.tup (.cons (.c (.str "step")) (.cons (.v 7) (.cons (.v 8) (.cons (.v 9) (.cons (.call true jt (.cons (.v 4) (.cons (.v 6) (.cons (.v 6) .nil))) []) .nil))))))) .nil) .nil) (.cons (.asg (.nm 10) (.call true jn (.cons (.v 4) (.cons (.bi false .len (.cons (.v 1) .nil)) .nil)) [])) (.cons (.asg (.nm 11) (.ix (.ix (.v 1) (.v 10)) (.c (.int 1)))) (.cons (.asg (.nm 12) (.call true jt (.cons (.v 4) (.cons (.v 6) (.cons (.v 11) .nil))) [])) (.cons (.asg (.nm 13) (.call true jt (.cons (.v 4) (.cons (.v 11) (.cons (.v 6) .nil))) [])) (.cons (.asg (.nm 14) (.bi false .tuple (.cons (.comp false (.bin false .band (.bin false .band (.v 15) (.c (.int mk))) (.bin false .sub (.bin false .shl (.c (.int 1)) (.v 6)) (.c (.int 1)))) (.nm 15) (.tup (.call true jt (.cons (.v 4) (.cons (.v 6) (.cons (.v 6) .nil))) [])) (.c (.bool true)) [15]) .nil))) (.cons (.ret (.tup (.cons (.c (.str "call")) (.cons (.v 7) (.cons (.v 8) (.cons (.v 9) (.cons (.v 10) (.cons (.v 12) (.cons (.v 13) (.cons (.v 14) .nil)))))))))) .nil))))))))
def edgeNB (jn jc jt : Nat) (mk : Int) : CB := (.cons (.asg (.nm 4) (.lst true (.cons (.bin false .add (.bin false .mod (.v 0) (.c (.int 2147483629))) (.c (.int 7))) .nil))) (.cons (.asg (.tp (.cons (.nm 5) (.cons (.nm 6) .nil))) (.ix (.v 1) (.v 2))) (.cons (.asg (.nm 7) (.call true jn (.cons (.v 4) (.cons (.v 5) .nil)) [])) (.cons (.asg (.nm 8) (.call true jn (.cons (.v 4) (.cons (.v 5) .nil)) [])) (.cons (.ite (.cmp .gt (.call true jn (.cons (.v 4) (.cons (.c (.int 3)) .nil)) []) (.c (.int 0))) (.cons (.asg (.nm 8) (.bi false .min2 (.cons (.bin false .add (.v 7) (.c (.int 1))) (.cons (.bin false .sub (.v 5) (.c (.int 1))) .nil)))) .nil) .nil) (edgeR jn jc jt mk))))))
def EdgeNOk (C : Cn) (je : Nat) : Prop := ∀ (O T : Cs) (r : Nat) (s : Sz) (c f m : Int), SzOk s → getC O T r = some (.lst (szD s)) → 0 ≤ f → f < s.length → 0 < m → ∃ (e : Ed) (g : Cs), EdOk s f.toNat e ∧ C.call O je [.d (.int c), .ref r, .d (.int f), .d (.int m)] T = .ok (.d e.d) (T ++ g)
theorem chg_new {O T T' : Cs} {s0 : Int} (h : Chg O (O.length + T.length) (T ++ [.lst [.int s0]]) T') : ∃ g, T' = T ++ g := by
  obtain ⟨s, g, rfl⟩ := h
  refine ⟨[.lst [.int s]] ++ g, ?_⟩
  rw [show O.length + T.length - O.length = T.length by omega, List.set_append_right (h := Nat.le_refl _)]
  simp
@[simp] theorem biU_min2 (O T : Cs) (l : Bool) (a b : Int) : biU O l .min2 [.d (.int a), .d (.int b)] T = .ok (.d (.int (if b < a then b else a))) T := rfl
section
variable {C : Cn} {jn jc jt : Nat}
theorem over_ok (ht : TableNOk C jt) (O T : Cs) (k : Nat) (n mk : Int) (hs : StAt O T k) (n1 : 1 ≤ n) (n6 : n ≤ 6) (m0 : 0 ≤ mk) (ρ : Rho) (h4 : ρ[4]? = some (some (.ref k))) (h6 : ρ[6]? = some (some (.d (.int n)))) (h15 : 15 < ρ.length) : ∃ (tb : List Nat) (T' : Cs), TbIn tb n n ∧ StAt O T' k ∧ Chg O k T T' ∧ den C O ρ (.comp false (.bin false .band (.bin false .band (.v 15) (.c (.int mk))) (.bin false .sub (.bin false .shl (.c (.int 1)) (.v 6)) (.c (.int 1)))) (.nm 15) (.tup (.call true jt (.cons (.v 4) (.cons (.v 6) (.cons (.v 6) .nil))) [])) (.c (.bool true)) [15]) T = .ok (.d (.list (nD tb))) T' := by
  obtain ⟨tb, T', hb, hs', hc', e⟩ := ht O T k n n hs (by omega) n6 n1 n6
  have hpw : ((2 : Int) ^ n.toNat) = ((2 ^ n.toNat : Nat) : Int) := by simp
  obtain ⟨m, hm⟩ := Int.eq_ofNat_of_zero_le m0
  have hp1 : ((2 : Int) ^ n.toNat - 1) = ((2 ^ n.toNat - 1 : Nat) : Int) := by
    have : 1 ≤ 2 ^ n.toNat := Nat.one_le_two_pow
    rw [hpw]
    omega
  refine ⟨tb.map fun x => x &&& m &&& (2 ^ n.toNat - 1), T', ⟨by simp [hb.1], fun r hr => ?_⟩, hs', hc', ?_⟩
  · obtain ⟨x, hx, rfl⟩ := List.mem_map.mp hr
    have h1 : x &&& m &&& (2 ^ n.toNat - 1) ≤ x := Nat.le_trans Nat.and_le_left Nat.and_le_left
    have := hb.2 x hx
    omega
  · refine comp_m0 (us := (nD tb).map .d) (w := none) (tt := T') ?_ (fun _ => rfl) (by simp [nD, nI]) ?_ (by have := hb.1; simp [nD, nI]; omega)
    · simp [h4, h6, e]
    · intro i u d hu hd acc
      rw [List.getElem?_map, Option.map_eq_some_iff] at hu
      obtain ⟨a, ha, rfl⟩ := hu
      obtain ⟨x, hx, rfl⟩ := nD_gt ha
      obtain ⟨y, hy, rfl⟩ := nD_gt hd
      rw [List.getElem?_map, hx] at hy
      simp only [Option.map_some, Option.some.injEq] at hy
      subst hy
      refine turn_all (asgT_nm _ _ _ _ _) ?_
      have hn : 0 ≤ n ∧ n ≤ 1000 := by omega
      have hv : Builtin.bitAnd (Builtin.bitAnd (x : Int) mk) (2 ^ n.toNat - 1) = ((x &&& m &&& (2 ^ n.toNat - 1) : Nat) : Int) := by
        rw [hm, hp1]
        show Builtin.bitAnd (Builtin.bitAnd ((x : Nat) : Int) ((m : Nat) : Int)) _ = _
        rw [bitAnd_n, bitAnd_n]
      have q15 : ((wipeR ρ [15]).set 15 (some (U.d (.int (x : Int)))))[15]? = some (some (.d (.int (x : Int)))) := by simp [wipeR, h15]
      have q6 : ((wipeR ρ [15]).set 15 (some (U.d (.int (x : Int)))))[6]? = some (some (.d (.int n))) := by simp [wipeR, h6]
      rw [← hv]
      generalize (wipeR ρ [15]).set 15 (some (U.d (.int (x : Int)))) = ρ' at q15 q6 ⊢
      generalize (x : Int) = xI at *
      simp [q15, q6, hn]
theorem edgeR_ok (hn : NextOk C jn) (hcs : CostOk C jc) (ht : TableNOk C jt) (mk : Int) (mk0 : 0 ≤ mk) (O T1 T : Cs) (s0 : Int) (r k : Nat) (hk : k = O.length + T.length) (s : Sz) (hs : SzOk s) (hT : getC O T r = some (.lst (szD s))) (hst : StAt O T1 k) (hch : Chg O k (T ++ [.lst [.int s0]]) T1) (h1 : getC O T1 r = some (.lst (szD s))) (hrk : r ≠ k) (f P nn p q m : Int) (m0 : 0 < m) (hf : s[f.toNat]? = some (P, nn)) (hp : 0 ≤ p ∧ p < P) (hq : 0 ≤ q ∧ q < P) (ua uf : Option U) (nx bk ct : Rho → Cs → Prop) :
    Wp (denB C O (edgeR jn jc jt mk) [ua, some (.ref r), uf, some (.d (.int m)), some (.ref k), some (.d (.int P)), some (.d (.int nn)), some (.d (.int p)), some (.d (.int q)), none, none, none, none, none, none, none] T1) nx bk ct (fun u T' => ∃ (e : Ed) (g : Cs), EdOk s f.toNat e ∧ u = .d e.d ∧ T' = T ++ g) := by
  have hb := hs.2 _ (List.mem_of_getElem? hf)
  simp only at hb
  obtain ⟨c, T2, a0, a1, s2, c2, e2⟩ := hcs O T1 k hst
  obtain ⟨v, T3, b0, b1, s3, c3, e3⟩ := hn.chg O T2 k m s2 m0
  obtain ⟨t, T4, d0, s4, c4, e4⟩ := ht O T3 k nn nn s3 (by omega) (by omega) (by omega) (by omega)
  have g3 : getC O T3 r = some (.lst (szD s)) := c3.get s2.lo hrk (c2.get hst.lo hrk h1)
  have hln : (szD s).length = s.length := by simp [szD]
  have hlen := lenB_ref g3
  rw [hln] at hlen
  obtain ⟨g, T5, f0, f1, s5, c5, e5⟩ := hn.chg O T3 k (s.length : Int) s3 (by have := hs.1.1; omega)
  have g5 := c5.get s3.lo hrk g3
  obtain ⟨Q, mm, hg, hbg, hxg⟩ := sz_at hs f0 f1
  have ix5 := ixU_at g5 hxg
  obtain ⟨t1, T6, i0, s6, c6, e6⟩ := ht O T5 k nn mm s5 (by omega) (by omega) (by omega) (by omega)
  obtain ⟨t2, T7, j0, s7, c7, e7⟩ := ht O T6 k mm nn s6 (by omega) (by omega) (by omega) (by omega)
  obtain ⟨t3, T8, k0, s8, c8, e8⟩ := over_ok ht O T7 k nn mk s7 (by omega) (by omega) mk0 [ua, some (.ref r), uf, some (.d (.int m)), some (.ref k), some (.d (.int P)), some (.d (.int nn)), some (.d (.int p)), some (.d (.int q)), some (.d (.int c)), some (.d (.int g)), some (.d (.int mm)), some (.d (.tuple (nD t1))), some (.d (.tuple (nD t2))), none, none] rfl rfl (by simp)
  have hst0 : StAt O (T ++ [.lst [.int s0]]) k := ⟨by omega, s0, by rw [hk, show O.length + T.length - O.length = T.length by omega]; simp⟩
  have w3 := (hch.trans hst0 c2).trans hst0 c3
  have w4 := w3.trans hst0 c4
  have w8 := (((w3.trans hst0 c5).trans hst0 c6).trans hst0 c7).trans hst0 c8
  rw [hk] at w4 w8
  obtain ⟨g4, hg4⟩ := chg_new w4
  obtain ⟨g8, hg8⟩ := chg_new w8
  have r4 : ∃ (e : Ed) (g : Cs), EdOk s f.toNat e ∧ U.d (.tuple [.str "step", .int p, .int q, .int c, .tuple (nD t)]) = .d e.d ∧ T4 = T ++ g := ⟨.st p q c t, g4, ⟨P, nn, hf, ⟨hp.1, hp.2, hq.1, hq.2, a0, a1⟩, d0⟩, rfl, hg4⟩
  have r8 : ∃ (e : Ed) (gs : Cs), EdOk s f.toNat e ∧ U.d (.tuple [.str "call", .int p, .int q, .int c, .int g, .tuple (nD t1), .tuple (nD t2), .tuple (nD t3)]) = .d e.d ∧ T8 = T ++ gs := ⟨.ca p q c g t1 t2 t3, g8, ⟨P, nn, Q, mm, hf, f0, f1, hg, ⟨hp.1, hp.2, hq.1, hq.2, a0, a1⟩, i0, j0, k0⟩, rfl, hg8⟩
  have at1 : L2.atI [PyData.int Q, .int mm] 1 = some (.int mm) := rfl
  have hm8 : ∀ a b c d e f g h : D, mkT [.d a, .d b, .d c, .d d, .d e, .d f, .d g, .d h] = .d (.tuple [a, b, c, d, e, f, g, h]) := fun _ _ _ _ _ _ _ _ => rfl
  clear w3 w4 w8 hg4 hg8 hst0 hch
  generalize nD t = tt at *
  generalize nD t1 = tt1 at *
  generalize nD t2 = tt2 at *
  generalize nD t3 = tt3 at *
  generalize (s.length : Int) = ln at *
  unfold edgeR
  generalize (CE.comp false (.bin false .band (.bin false .band (.v 15) (.c (.int mk))) (.bin false .sub (.bin false .shl (.c (.int 1)) (.v 6)) (.c (.int 1)))) (.nm 15) (.tup (.call true jt (.cons (.v 4) (.cons (.v 6) (.cons (.v 6) .nil))) [])) (.c (.bool true)) [15]) = CC at *
  simp [e2, e3, e4, hlen, e5, ix5, at1, e6, e7, e8, hm8]
  exact ⟨fun _ => by simpa using r4, fun _ => by simpa using r8⟩
end
theorem edgeN_run {G : Pg} {jn jc jt je : Nat} {mk : Int} (mk0 : 0 ≤ mk) (hG : G.defs je = some ⟨4, 16, edgeNB jn jc jt mk⟩) (n : Nat) (hn : NextOk (cn G n) jn) (hcs : CostOk (cn G n) jc) (ht : TableNOk (cn G n) jt) : EdgeNOk (cn G (n + 1)) je := by
  intro O T r s c f m hs hT f0 f1 m0
  suffices hg : Gv (Y.run G (n + 1) O je [.d (.int c), .ref r, .d (.int f), .d (.int m)] T) fun u T' => ∃ (e : Ed) (g : Cs), EdOk s f.toNat e ∧ u = .d e.d ∧ T' = T ++ g by
    obtain ⟨u, T', e, ed, g, h1, rfl, rfl⟩ := hg.ex
    exact ⟨ed, g, h1, e⟩
  refine run_wp hG rfl ?_
  generalize cn G n = C at *
  obtain ⟨P, nn, hf, hb, hx⟩ := sz_at hs f0 f1
  obtain ⟨s0, hs0⟩ : ∃ s0 : Int, s0 = c % 2147483629 + 7 := ⟨_, rfl⟩
  have hst : StAt O (T ++ [.lst [.int s0]]) (O.length + T.length) := ⟨by omega, s0, by rw [show O.length + T.length - O.length = T.length by omega]; simp⟩
  have hrk : r ≠ O.length + T.length := by
    intro e
    rw [getC_eq, e] at hT
    have := (List.getElem?_eq_some_iff.mp hT).1
    simp at this
  have g0 : getC O (T ++ [.lst [.int s0]]) r = some (.lst (szD s)) := getC_app hT
  have ix0 := ixU_at g0 hx
  obtain ⟨k, hk⟩ : ∃ k, k = O.length + T.length := ⟨_, rfl⟩
  rw [← hk] at hst hrk
  obtain ⟨p, T1, a0, a1, s1, c1, e1⟩ := hn.chg O _ k P hst (by omega)
  obtain ⟨q, T2, b0, b1, s2, c2, e2⟩ := hn.chg O _ k P s1 (by omega)
  obtain ⟨v, T3, d0, d1, s3, c3, e3⟩ := hn.chg O _ k 3 s2 (by decide)
  have g1 := c1.get hst.lo hrk g0
  have g2 := c2.get s1.lo hrk g1
  have g3 := c3.get s2.lo hrk g2
  have hch := (c1.trans hst c2).trans hst c3
  have hR := fun q hq => edgeR_ok hn hcs ht mk mk0 O T3 T s0 r k hk s hs hT s3 hch g3 hrk f P nn p q m m0 hf ⟨a0, a1⟩ hq (some (.d (.int c))) (some (.d (.int f))) (fun _ T' => ∃ (e : Ed) (g : Cs), EdOk s f.toNat e ∧ (U.d .none : U) = .d e.d ∧ T' = T ++ g) (fun _ _ => False) (fun _ _ => False)
  have hq1 := hR q ⟨b0, b1⟩
  have hq2 := hR (if P - 1 < p + 1 then P - 1 else p + 1) (by split <;> omega)
  have hco : Y.cellOf [U.d (.int s0)] = .lst [.int s0] := rfl
  unfold edgeNB
  generalize edgeR jn jc jt mk = R at *
  clear hR
  generalize hT0 : T ++ [Cell.lst [.int s0]] = T0 at *
  simp [← hs0, hco, ← hk, hT0, ix0, e1, e2, e3]
  exact ⟨fun _ => by simpa using hq2, fun _ => by simpa using hq1⟩
theorem mul_bits {i j : Int} (h : Builtin.Int.intBits i + Builtin.Int.intBits j ≤ 134217728) : mulOk i j = true := by
  unfold mulOk
  simp [h]
def cellNB : CB := (.cons (.ite (.cmp .lt (.v 1) (.bi false .len (.cons (.v 0) .nil))) (.cons (.ret (.ix (.v 0) (.v 1))) .nil) .nil) (.cons (.asg (.nm 2) (.bin false .add (.bin false .mul (.c (.int 6007)) (.v 1)) (.c (.int 29)))) (.cons (.ite (.cmp .gt (.bi false .len (.cons (.v 0) .nil)) (.c (.int 0))) (.cons (.asg (.nm 2) (.bin false .add (.v 2) (.bin false .mul (.c (.int 40961)) (.ix (.v 0) (.bin false .mod (.bin false .mul (.c (.int 7)) (.v 1)) (.bi false .len (.cons (.v 0) .nil))))))) .nil) .nil) (.cons (.ret (.bin false .mod (.bin false .mul (.v 2) (.v 2)) (.c (.int 1000081)))) .nil))))
def CellNOk (C : Cn) (jc : Nat) (ua : U) : Prop := ∀ (O T : Cs) (k : Int), 0 ≤ k → k ≤ 100 → ∃ w : Int, callP C O jc [ua, .d (.int k)] T = .ok (.d (.int w)) T
theorem cellN_run {G : Pg} {jc : Nat} (hG : G.defs jc = some ⟨2, 3, cellNB⟩) (n : Nat) (ns : List Int) (hl : ns.length ≤ 63) (hb : ∀ z ∈ ns, Builtin.Int.intBits z ≤ 1048576) (ua : U) (hua : ua = .d (.list (ns.map .int))) : CellNOk (cn G (n + 1)) jc ua := by
  intro O T k k0 k1
  suffices hg : Gv (Y.run G (n + 1) (O ++ T) jc [ua, .d (.int k)] []) fun u T' => ∃ w : Int, u = .d (.int w) by
    obtain ⟨u, T', e, w, rfl⟩ := hg.ex
    exact ⟨w, callP_r O T e⟩
  refine run_wp hG rfl ?_
  have hlb : ∀ O T, lenB O T ua = .ok (.d (.int ns.length)) T := fun O T => by rw [hua, lenB_L]; simp
  have hix : ∀ O T (i : Int), 0 ≤ i → i < (ns.length : Int) → ∃ w : Int, ixU O ua (.d (.int i)) T = some (.d (.int w)) ∧ Builtin.Int.intBits w ≤ 1048576 := by
    intro O T i i0 h
    have hlt : i.toNat < ns.length := by omega
    refine ⟨ns[i.toNat], ?_, hb _ (List.getElem_mem _)⟩
    rw [hua, ixU_L, atI_nat _ _ i0 (by simp; omega), List.getElem?_map, List.getElem?_eq_getElem hlt]
    rfl
  clear hua
  have hlb := hlb (O ++ T)
  have hix := hix (O ++ T)
  have hl0 : 0 ≤ (ns.length : Int) := by omega
  generalize (ns.length : Int) = ln at hlb hix hl0
  generalize O ++ T = O at hlb hix ⊢
  have m1 : mulOk 6007 k = true := mul_okL (by decide)
  have m2 : mulOk 7 k = true := mul_okL (by decide)
  have e64 : (2 : Nat) ^ 64 = 18446744073709551616 := by decide
  have b0 : Builtin.Int.intBits (6007 * k + 29) ≤ 64 := PySem.intBits_le_iff.mpr (by rw [e64]; omega)
  have m3 : mulOk (6007 * k + 29) (6007 * k + 29) = true := mul_bits (by omega)
  by_cases h0 : 0 < ln
  · obtain ⟨w, hw, hwb⟩ := hix [] (7 * k % ln) (Int.emod_nonneg _ (by omega)) (Int.emod_lt_of_pos _ h0)
    have m4 : mulOk 40961 w = true := mul_okL (by decide)
    have b1 := PySem.intBits_mul_le (m := 64) (x := 40961) (PySem.intBits_le_iff.mpr (by rw [e64]; decide)) hwb
    have b2 := PySem.intBits_add_le b0 b1
    have m5 : mulOk (6007 * k + 29 + 40961 * w) (6007 * k + 29 + 40961 * w) = true := mul_bits (by omega)
    by_cases hk : k < ln
    · obtain ⟨x, hx, _⟩ := hix [] k k0 hk
      unfold cellNB
      simp [hlb, hk, hx]
    · unfold cellNB
      simp [hlb, hk, m1, m2, h0, hw, m4, m5]
  · have hk : ¬ k < ln := by omega
    unfold cellNB
    simp [hlb, hk, m1, h0, m3]
section
variable {C : Cn} {O : Cs}
/-- the empty lists -/
theorem edgesG {a c : Nat} (s : Sz) (hs : SzOk s) (ρ : Rho) (h3 : ρ[a]? = some (some (.ref O.length))) (h8 : c < ρ.length) : den C O ρ (.comp true (.lst true .nil) (.nm c) (.lst (.v a)) (.c (.bool true)) [c]) [.lst (szD s)] = .ok (.ref (O.length + 1)) (.lst (szD s) :: .lstU (refs O.length s.length) :: List.replicate s.length (lstE [])) := by
  have hln : (szD s).length = s.length := by simp [szD]
  have hsq : seqL O [.lst (szD s)] (.ref O.length) = some ((szD s).map .d) := by simp
  have k := comp_st (C := C) (O := O) (T := [.lst (szD s)]) (T0 := [.lst (szD s)]) (ρ := ρ) (elt := .lst true .nil) (t := .c (.bool true)) (g := .nm c) (it := .lst (.v a)) (own := [c]) (us := (szD s).map .d) (w := some O.length) (tt := [.lst (szD s)]) (live := true)
    (fun i => .lst (szD s) :: .lstU (refs O.length i) :: List.replicate i (lstE [])) (by
      rw [denI, den_v, h3]
      simp only [R.bind_ok, hsq]
      rfl) (by rfl) (by
      intro i u hu
      have hi : i < s.length := by
        have := (List.getElem?_eq_some_iff.mp hu).1
        simpa [hln] using this
      refine ⟨sameW_refl (c := .lst (szD s)) (by simp) (by simp) (.inl ⟨_, rfl⟩), _, rfl, by simp, .ref (O.length + (2 + i)), .lst (szD s) :: .lstU (refs O.length i) :: (List.replicate i (lstE []) ++ [lstE []]), ?_, ?_⟩
      · simp [lstE]
        omega
      · rw [putC_at (acc := refs O.length i) rfl (by rw [refs_len]; have := hs.1.2; omega)]
        simp only [List.length_cons, List.length_nil, List.set_cons_succ, List.set_cons_zero, refs_S, List.replicate_succ']) (sameW_refl (c := .lst (szD s)) (by simp) (by simp) (.inl ⟨_, rfl⟩))
  rw [k]
  simp only [List.length_map, hln]
  have e5 : (Cell.lst (szD s) :: .lstU (refs O.length s.length) :: List.replicate s.length (lstE []))[[Cell.lst (szD s)].length]? = some (.lstU (refs O.length s.length)) := rfl
  unfold compE
  simp only [e5]
  rw [if_pos trivial, refs_cell (by have := hs.1.1; omega)]
  rfl

theorem end_eltG {a b f : Nat} (haf : f ≠ a) (hbf : f ≠ b) (ρ : Rho) (T T' : Cs) (i : Int) (j : Nat) (sz : List D) (rf : List U) (P n : Int) (es : List D) (h3 : ρ[a]? = some (some (.ref O.length))) (h5 : ρ[b]? = some (some (.ref (O.length + 1)))) (h4 : f < ρ.length)
    (g0 : getC O T O.length = some (.lst sz)) (hx : L2.atI sz i = some (.tuple [.int P, .int n])) (g1 : getC O T (O.length + 1) = some (.lstU rf)) (hre : L2.atI rf i = some (.ref (O.length + j))) (gj : getC O T (O.length + j) = some (.lst es)) (hlt : j < T.length) (hS : T.set j .dead = T') :
    den C O ((wipeR ρ [f]).set f (some (.d (.int i)))) (.tup (.cons (.ix (.ix (.v a) (.v f)) (.c (.int 0))) (.cons (.ix (.ix (.v a) (.v f)) (.c (.int 1))) (.cons (.frz (.ix (.v b) (.v f))) .nil)))) T = .ok (.d (.tuple [.int P, .int n, .list es])) T' := by
  have a0 : ixU O (.ref O.length) (.d (.int i)) T = some (.d (.tuple [.int P, .int n])) := ixU_at g0 hx
  have a1 : ixU O (.ref (O.length + 1)) (.d (.int i)) T = some (.ref (O.length + j)) := ixU_atU g1 hre
  have z0 : L2.atI [PyData.int P, PyData.int n] 0 = some (.int P) := rfl
  have z1 : L2.atI [PyData.int P, PyData.int n] 1 = some (.int n) := rfl
  have hf : frzU O (.ref (O.length + j)) T = .ok (.d (.list es)) T' := by
    unfold frzU
    simp [gj, hlt, hS]
  have q3 : ((wipeR ρ [f]).set f (some (U.d (.int i))))[a]? = some (some (.ref O.length)) := by simp [wipeR, h3, List.getElem?_set_ne haf]
  have q5 : ((wipeR ρ [f]).set f (some (U.d (.int i))))[b]? = some (some (.ref (O.length + 1))) := by simp [wipeR, h5, List.getElem?_set_ne hbf]
  have q4 : ((wipeR ρ [f]).set f (some (U.d (.int i))))[f]? = some (some (.d (.int i))) := by simp [wipeR, h4]
  generalize (wipeR ρ [f]).set f (some (U.d (.int i))) = ρ' at q3 q4 q5 ⊢
  simp [q3, q4, q5, a0, a1, z0, z1, hf]

/-- the chart, made of its lists -/
theorem chart_endG {a b f : Nat} (haf : f ≠ a) (hbf : f ≠ b) (g : Cs) (s : Sz) (hs : SzOk s) (ess : List (List Ed)) (hl : ess.length = s.length) (ρ : Rho) (h3 : ρ[a]? = some (some (.ref O.length))) (h5 : ρ[b]? = some (some (.ref (O.length + 1)))) (h4 : f < ρ.length) :
    ∃ T', den C O ρ (.comp false (.tup (.cons (.ix (.ix (.v a) (.v f)) (.c (.int 0))) (.cons (.ix (.ix (.v a) (.v f)) (.c (.int 1))) (.cons (.frz (.ix (.v b) (.v f))) .nil)))) (.nm f) (.rng1 (.bi false .len (.cons (.v a) .nil))) (.c (.bool true)) [f]) (.lst (szD s) :: .lstU (refs O.length s.length) :: (ess.map lstE ++ g)) = .ok (.d (.list (chD ((s.zip ess).map fun p => (p.1.1, p.1.2, p.2))))) T' := by
  have hln : (szD s).length = s.length := by simp [szD]
  obtain ⟨s1, s6⟩ := hs.1
  have len0 : ∀ T, lenB O (.lst (szD s) :: T) (.ref O.length) = .ok (.d (.int s.length)) (.lst (szD s) :: T) := by
    intro T
    rw [lenB_ref (ds := szD s) (by simp), hln]
  have hro : rngOk 0 (s.length : Int) = true := by simp [rngOk]; omega
  have hcl : (chD ((s.zip ess).map fun p => (p.1.1, p.1.2, p.2))).length = s.length := by simp [chD, hl]
  generalize hR : chD ((s.zip ess).map fun p => (p.1.1, p.1.2, p.2)) = Rs at hcl
  have k := comp_st (C := C) (O := O) (T := .lst (szD s) :: .lstU (refs O.length s.length) :: (ess.map lstE ++ g)) (T0 := .lst (szD s) :: .lstU (refs O.length s.length) :: (ess.map lstE ++ g)) (ρ := ρ) (elt := .tup (.cons (.ix (.ix (.v a) (.v f)) (.c (.int 0))) (.cons (.ix (.ix (.v a) (.v f)) (.c (.int 1))) (.cons (.frz (.ix (.v b) (.v f))) .nil)))) (t := .c (.bool true)) (g   := .nm f) (it := .rng1 (.bi false .len (.cons (.v a) .nil))) (own := [f]) (us := rngU 0 s.length 1) (w := none) (tt := .lst (szD s) :: .lstU (refs O.length s.length) :: (ess.map lstE ++ g)) (live := false)
    (fun i => .lst (szD s) :: .lstU (refs O.length s.length) :: ((List.replicate i .dead ++ (ess.drop i).map lstE) ++ (g ++ [.lstU ((Rs.take i).map .d)]))) (by
      refine rng1_ok (z := (s.length : Int)) ?_ hro (by simp)
      rw [den_bi, denA_cons, den_v, h3]
      simp only [R.bind_ok, denA_nil, biU_len, one_one, len0]) (by simp) (by
      intro i u hu
      obtain ⟨hi, rfl⟩ := rngU_get hu
      have hu0 : (0 + ((i : Nat) : Int) * 1) = ((i : Nat) : Int) := by omega
      rw [hu0]
      obtain ⟨P, n, hf, hb, hx⟩ := sz_at hs (f := (i : Int)) (by omega) (by omega)
      have hie : i < ess.length := by omega
      have hes : ess[i]? = some ess[i] := List.getElem?_eq_getElem hie
      have hd : ess.drop i = ess[i] :: ess.drop (i + 1) := List.drop_eq_getElem_cons hie
      have hri : Rs[i]? = some (.tuple [.int P, .int n, .list ((ess[i]).map Ed.d)]) := by
        rw [← hR]
        have hf' : s[i]? = some (P, n) := by simpa using hf
        have hz : (s.zip ess)[i]? = some ((P, n), ess[i]) := List.getElem?_zip_eq_some.mpr ⟨hf', hes⟩
        simp [chD, hz]
      generalize hE : ess[i] = es at *
      refine ⟨rfl, _, rfl, by simp, .d (.tuple [.int P, .int n, .list (es.map Ed.d)]), .lst (szD s) :: .lstU (refs O.length s.length) :: ((List.replicate (i + 1) .dead ++ (ess.drop (i + 1)).map lstE) ++ (g ++ [.lstU ((Rs.take i).map .d)])), ?_, ?_⟩
      · have hre := refs_at O.length s.length (i : Int) (by omega) (by omega)
        simp only [Int.toNat_natCast] at hre
        have hT : (.lst (szD s) :: .lstU (refs O.length s.length) :: ((List.replicate i .dead ++ (ess.drop i).map lstE) ++ (g ++ [.lstU ((Rs.take i).map .d)])) : Cs)[2 + i]? = some (.lst (es.map Ed.d)) := by
          rw [hd, Nat.add_comm 2 i]
          simp only [List.getElem?_cons_succ, List.append_assoc]
          rw [List.getElem?_append_right (by simp)]
          simp [lstE]
        have hS : (.lst (szD s) :: .lstU (refs O.length s.length) :: ((List.replicate i .dead ++ (ess.drop i).map lstE) ++ (g ++ [.lstU ((Rs.take i).map .d)])) : Cs).set (2 + i) .dead = .lst (szD s) :: .lstU (refs O.length s.length) :: ((List.replicate (i + 1) .dead ++ (ess.drop (i + 1)).map lstE) ++ (g ++ [.lstU ((Rs.take i).map .d)])) := by
          rw [hd, Nat.add_comm 2 i]
          simp only [List.set_cons_succ, List.append_assoc]
          rw [List.set_append_right (h := by simp)]
          simp [List.replicate_succ', lstE]
        have hlt : 2 + i < (.lst (szD s) :: .lstU (refs O.length s.length) :: ((List.replicate i .dead ++ (ess.drop i).map lstE) ++ (g ++ [.lstU ((Rs.take i).map .d)])) : Cs).length := (List.getElem?_eq_some_iff.mp hT).1
        have h0 : (.lst (szD s) :: .lstU (refs O.length s.length) :: ((List.replicate i .dead ++ (ess.drop i).map lstE) ++ (g ++ [.lstU ((Rs.take i).map .d)])) : Cs)[0]? = some (.lst (szD s)) := rfl
        have h1 : (.lst (szD s) :: .lstU (refs O.length s.length) :: ((List.replicate i .dead ++ (ess.drop i).map lstE) ++ (g ++ [.lstU ((Rs.take i).map .d)])) : Cs)[1]? = some (.lstU (refs O.length s.length)) := rfl
        generalize (.lst (szD s) :: .lstU (refs O.length s.length) :: ((List.replicate i .dead ++ (ess.drop i).map lstE) ++ (g ++ [.lstU ((Rs.take i).map .d)])) : Cs) = TT at hT hS hlt h0 h1 ⊢
        exact end_eltG haf hbf ρ TT _ (i : Int) (2 + i) _ _ P n (es.map Ed.d) h3 h5 h4 (by rw [getC_0, h0]) hx (by rw [getC_k, h1]) hre (by rw [getC_k, hT]) hlt hS
      · have hTl : (Cell.lst (szD s) :: .lstU (refs O.length s.length) :: (ess.map lstE ++ g)).length = (s.length + g.length) + 2 := by simp [hl]
        rw [hTl]
        have hln2 : (List.replicate (i + 1) Cell.dead ++ (ess.drop (i + 1)).map lstE).length = s.length := by simp; omega
        rw [putC_at (acc := (Rs.take i).map .d) (by
          simp only [List.getElem?_cons_succ]
          rw [List.getElem?_append_right (by omega), hln2, List.getElem?_append_right (by omega)]
          simp) (by simp; omega)]
        simp only [List.set_cons_succ]
        rw [List.set_append_right (h := by omega), hln2, List.set_append_right (h := by omega), List.take_add_one, hri]
        simp) rfl
  rw [k]
  have hul : (rngU 0 s.length 1).length = s.length := rngU_len
  rw [hul]
  have hdr : ess.drop s.length = [] := List.drop_eq_nil_of_le (by omega)
  have hTl : (Cell.lst (szD s) :: .lstU (refs O.length s.length) :: (ess.map lstE ++ g)).length = (s.length + g.length) + 2 := by simp [hl]
  have hta : Rs.take s.length = Rs := List.take_of_length_le (by omega)
  rw [hdr, hta]
  have e5 : (Cell.lst (szD s) :: .lstU (refs O.length s.length) :: ((List.replicate s.length .dead ++ ([] : List (List Ed)).map lstE) ++ (g ++ [.lstU (Rs.map .d)])))[(Cell.lst (szD s) :: .lstU (refs O.length s.length) :: (ess.map lstE ++ g)).length]? = some (.lstU (Rs.map .d)) := by
    rw [hTl]
    simp only [List.getElem?_cons_succ]
    rw [List.getElem?_append_right (by simp), List.getElem?_append_right (by simp)]
    simp
  unfold compE
  simp only [e5, allD_map]
  rw [if_neg (by decide)]
  split
  · exact ⟨_, rfl⟩
  · exact ⟨_, rfl⟩

end
theorem wp_mono2 {r : F} {nx bk ct : Rho → Cs → Prop} {rt rt' : U → Cs → Prop} (h : Wp r nx bk ct rt) (hi : ∀ u T, rt u T → rt' u T) : Wp r nx bk ct rt' := by
  cases r with
  | rt u T => exact hi u T h
  | nx => exact h
  | bk => exact h
  | ct => exact h
  | exc => exact h
  | fail => exact h
def chartNE (je : Nat) : CB := (.cons (.asg (.nm 6) (.bin false .mod (.bin false .add (.bin false .fdiv (.v 7) (.c (.int 5))) (.v 9)) (.bi false .len (.cons (.v 5) .nil)))) (.cons (.ex (.mt false .append (.ix (.v 8) (.v 6)) (.cons (.call true je (.cons (.v 7) (.cons (.v 5) (.cons (.v 6) (.cons (.c (.int 2)) .nil)))) []) .nil))) .nil))
def chartNH (jc : Nat) : CB := (.cons (.asg (.nm 7) (.bin false .fdiv (.call false jc (.cons (.v 0) (.cons (.bin false .add (.c (.int 1)) (.v 6)) .nil)) []) (.c (.int 2)))) (.cons (.ex (.mt false .append (.v 5) (.cons (.tup (.cons (.bin false .add (.c (.int 1)) (.bin false .mod (.v 7) (.v 3))) (.cons (.bin false .add (.c (.int 1)) (.bin false .mod (.bin false .fdiv (.v 7) (.c (.int 16))) (.v 4))) .nil))) .nil))) .nil))
def chartNR (je : Nat) : CB := (.cons (.asg (.nm 8) (.comp true (.lst true .nil) (.nm 10) (.lst (.v 5)) (.c (.bool true)) [10])) (.cons (.for_ (.tp (.cons (.nm 9) (.cons (.nm 7) .nil))) (.enumL (.slc false (.v 0) (.v 1) (.bin false .add (.v 1) (.c (.int 14))))) (chartNE je)) (.cons (.ret (.comp false (.tup (.cons (.ix (.ix (.v 5) (.v 6)) (.c (.int 0))) (.cons (.ix (.ix (.v 5) (.v 6)) (.c (.int 1))) (.cons (.frz (.ix (.v 8) (.v 6))) .nil)))) (.nm 6) (.rng1 (.bi false .len (.cons (.v 5) .nil))) (.c (.bool true)) [6])) .nil)))
def chartNF (jc je : Nat) : CB := (.cons (.for_ (.nm 6) (.rng1 (.bin false .add (.c (.int 1)) (.bin false .mod (.call false jc (.cons (.v 0) (.cons (.c (.int 0)) .nil)) []) (.v 2)))) (chartNH jc)) (chartNR je))
def chartNB (jc je : Nat) : CB := (.cons (.asg (.nm 5) (.lst true .nil)) (.cons (.ite (.cmp .eq (.bin false .mod (.bin false .fdiv (.call false jc (.cons (.v 0) (.cons (.c (.int 0)) .nil)) []) (.c (.int 7))) (.c (.int 8))) (.c (.int 1))) (.cons (.asg (.nm 2) (.c (.int 6))) .nil) .nil) (chartNF jc je)))
section
variable {C : Cn} {O : Cs} {jc je : Nat}
theorem chartNE_ok (he : EdgeNOk C je) (s : Sz) (hs : SzOk s) (ess : List (List Ed)) (g0 : Cs) (hl : ess.length = s.length) (hk : ∀ f es, ess[f]? = some es → ∀ e ∈ es, EdOk s f e) (hm : (ess.map List.length).sum ≤ 1000) (r0 r1 r2 r3 r4 r6 r10 : Option U) (i v : Int) (nx bk ct : Rho → Cs → Prop) (rt : U → Cs → Prop)
    (hN : ∀ (ess' : List (List Ed)) (g' : Cs), ess'.length = s.length → (∀ f es, ess'[f]? = some es → ∀ e ∈ es, EdOk s f e) → (ess'.map List.length).sum = (ess.map List.length).sum + 1 → ∀ r6 : Option U, nx [r0, r1, r2, r3, r4, some (.ref O.length), r6, some (.d (.int v)), some (.ref (O.length + 1)), some (.d (.int i)), r10] (.lst (szD s) :: .lstU (refs O.length s.length) :: (ess'.map lstE ++ g'))) :
    Wp (denB C O (chartNE je) [r0, r1, r2, r3, r4, some (.ref O.length), r6, some (.d (.int v)), some (.ref (O.length + 1)), some (.d (.int i)), r10] (.lst (szD s) :: .lstU (refs O.length s.length) :: (ess.map lstE ++ g0))) nx bk ct rt := by
  have hln : (szD s).length = s.length := by simp [szD]
  obtain ⟨s1, s6⟩ := hs.1
  have gz : ∀ T, getC O (.lst (szD s) :: T) O.length = some (.lst (szD s)) := fun T => by simp
  have g1 : ∀ T, getC O (.lst (szD s) :: .lstU (refs O.length s.length) :: T) (O.length + 1) = some (.lstU (refs O.length s.length)) := fun T => by simp
  have hlen := lenB_ref (gz (.lstU (refs O.length s.length) :: (ess.map lstE ++ g0)))
  rw [hln] at hlen
  obtain ⟨f, hf⟩ : ∃ f : Int, f = (v / 5 + i) % (s.length : Int) := ⟨_, rfl⟩
  have f0 : 0 ≤ f := by rw [hf]; exact Int.emod_nonneg _ (by omega)
  have f1 : f < s.length := by rw [hf]; exact Int.emod_lt_of_pos _ (by omega)
  have hre := refs_at O.length s.length f f0 f1
  have hfl : f.toNat < ess.length := by omega
  have hes : ess[f.toNat]? = some ess[f.toNat] := List.getElem?_eq_getElem hfl
  generalize ess[f.toNat] = es at hes
  obtain ⟨e, gs, hok, ee⟩ := he O (.lst (szD s) :: .lstU (refs O.length s.length) :: (ess.map lstE ++ g0)) O.length s v f 2 hs (gz _) f0 f1 (by decide)
  have hT1 : (.lst (szD s) :: .lstU (refs O.length s.length) :: (ess.map lstE ++ g0)) ++ gs = .lst (szD s) :: .lstU (refs O.length s.length) :: (ess.map lstE ++ (g0 ++ gs)) := by simp
  rw [hT1] at ee
  have hT : ∀ g : Cs, (.lst (szD s) :: .lstU (refs O.length s.length) :: (ess.map lstE ++ g) : Cs)[2 + f.toNat]? = some (.lst (es.map Ed.d)) := by
    intro g
    rw [Nat.add_comm]
    simp only [List.getElem?_cons_succ]
    rw [List.getElem?_append_left (by simpa using hfl)]
    simp [hes, lstE]
  have g2 : ∀ g : Cs, getC O (.lst (szD s) :: .lstU (refs O.length s.length) :: (ess.map lstE ++ g)) (O.length + (2 + f.toNat)) = some (.lst (es.map Ed.d)) := fun g => by rw [getC_k, hT]
  have hxr := ixU_atU (g1 (ess.map lstE ++ g0)) hre
  have hesl : es.length ≤ 1000 := by
    have h1 : es.length ∈ ess.map List.length := List.mem_map.mpr ⟨es, List.mem_of_getElem? hes, rfl⟩
    have := mem_sum h1
    omega
  have hap := app_at (O := O) e.d (g2 (g0 ++ gs)) (by simp; omega) (by omega)
  have hS : (.lst (szD s) :: .lstU (refs O.length s.length) :: (ess.map lstE ++ (g0 ++ gs)) : Cs).set (O.length + (2 + f.toNat) - O.length) (.lst (es.map Ed.d ++ [e.d])) = .lst (szD s) :: .lstU (refs O.length s.length) :: ((ess.set f.toNat (es ++ [e])).map lstE ++ (g0 ++ gs)) := by
    rw [show O.length + (2 + f.toNat) - O.length = f.toNat + 2 by omega]
    simp only [List.set_cons_succ]
    rw [List.set_append_left (h := by simpa using hfl), List.map_set]
    simp [lstE]
  rw [hS] at hap
  have hty : tyU O (.lst (szD s) :: .lstU (refs O.length s.length) :: (ess.map lstE ++ g0)) (.ref (O.length + (2 + f.toNat))) = some .list := by
    rw [tyU_ref, g2]
  have hfin := hN (ess.set f.toNat (es ++ [e])) (g0 ++ gs) (by simp [hl]) (fun f' es' h' e' he' => by
    rw [List.getElem?_set] at h'
    by_cases hff : f.toNat = f'
    · rw [if_pos hff, if_pos hfl] at h'
      cases h'
      rw [List.mem_append] at he'
      rcases he' with he' | he'
      · exact hff ▸ hk _ _ hes e' he'
      · simp at he'
        subst he'
        exact hff ▸ hok
    · rw [if_neg hff] at h'
      exact hk f' es' h' e' he') (sum_set1 e ess f.toNat es hes) (some (.d (.int f)))
  have hpos : (0 : Int) < s.length := by omega
  clear hN hS hT gz g1 g2 hre
  generalize (.lst (szD s) :: .lstU (refs O.length s.length) :: ((ess.set f.toNat (es ++ [e])).map lstE ++ (g0 ++ gs)) : Cs) = T2 at hfin hap
  generalize (.lst (szD s) :: .lstU (refs O.length s.length) :: (ess.map lstE ++ (g0 ++ gs)) : Cs) = T3 at hap ee
  generalize (.lst (szD s) :: .lstU (refs O.length s.length) :: (ess.map lstE ++ g0) : Cs) = T1 at hxr hty ee hlen ⊢
  generalize O.length + (2 + f.toNat) = kk at hap hxr hty
  generalize (s.length : Int) = ln at hlen hf hpos
  generalize O.length + 1 = k1 at hxr hfin ⊢
  unfold chartNE
  simp [hlen, ← hf, hpos, hxr, hty, -tyU_ref, -appU_eq, ee, hap]
  exact hfin
theorem chartNR_ok (he : EdgeNOk C je) (s : Sz) (hs : SzOk s) (ua : U) (a' : Int) (cl : List Int) (hsl : ∀ T, slcU O false ua (some a') (some (a' + 14)) T = .ok (.d (.list (cl.map .int))) T) (hcl : cl.length ≤ 14) (r2 r3 r4 r6 r7 r8 r9 r10 : Option U) (nx bk ct : Rho → Cs → Prop) :
    Wp (denB C O (chartNR je) [some ua, some (.d (.int a')), r2, r3, r4, some (.ref O.length), r6, r7, r8, r9, r10] [.lst (szD s)]) nx bk ct (fun u _ => ∃ ch, ChOk ch ∧ chSz ch = s ∧ u = .d (.list (chD ch))) := by
  unfold chartNR
  have e0 := edgesG (C := C) (O := O) (a := 5) (c := 10) s hs [some ua, some (.d (.int a')), r2, r3, r4, some (.ref O.length), r6, r7, r8, r9, r10] rfl (by simp)
  rw [wp_cons, wpS_asg, e0]
  simp only [F.of_ok, asgT_nm, List.set_cons_zero, List.set_cons_succ, wp_nx, Kc_eq]
  rw [wp_cons]
  refine wp_for ⟨(cl.map fun c => U.d (.int c)).zipIdx.map fun p => mkT [.d (.int (p.2 : Nat)), p.1], none, .lst (szD s) :: .lstU (refs O.length s.length) :: List.replicate s.length (lstE [])⟩ (.lst (szD s) :: .lstU (refs O.length s.length) :: List.replicate s.length (lstE [])) (fun i ρ T => ∃ (ess : List (List Ed)) (g : Cs) (r6 r7 r9 : Option U), ess.length = s.length ∧ (∀ f es, ess[f]? = some es → ∀ e ∈ es, EdOk s f e) ∧ (ess.map List.length).sum = i ∧ T = .lst (szD s) :: .lstU (refs O.length s.length) :: (ess.map lstE ++ g) ∧ ρ = [some ua, some (.d (.int a')), r2, r3, r4, some (.ref O.length), r6, r7, some (.ref (O.length + 1)), r9, r10]) ?_ ?_ (fun _ _ _ _ => rfl) ?_ ?_
  · have hsl' := hsl (.lst (szD s) :: .lstU (refs O.length s.length) :: List.replicate s.length (lstE []))
    generalize (.lst (szD s) :: .lstU (refs O.length s.length) :: List.replicate s.length (lstE []) : Cs) = T at hsl' ⊢
    simp [hsl']
    rfl
  · refine ⟨List.replicate s.length [], [], r6, r7, r9, by simp, fun f es h e he => ?_, by simp, by simp, rfl⟩
    rw [List.getElem?_replicate] at h
    split at h
    · cases h
      cases he
    · cases h
  · rintro i u hu ρ T ⟨ess, g, r6, r7, r9, hl, hk, hsm, rfl, rfl⟩
    have hi : i < cl.length := by
      have := (List.getElem?_eq_some_iff.mp hu).1
      simpa using this
    have hu' : ∃ v : Int, u = .d (.tuple [.int (i : Nat), .int v]) := by
      rw [List.getElem?_map, List.getElem?_zipIdx, List.getElem?_map, List.getElem?_eq_getElem hi] at hu
      simp at hu
      exact ⟨_, hu.symm⟩
    obtain ⟨v, rfl⟩ := hu'
    refine ⟨_, rfl, ?_⟩
    exact chartNE_ok he s hs ess g hl hk (by omega) _ _ _ _ _ _ _ (i : Int) v _ _ _ _ fun ess' g' h1 h2 h3 r6 => ⟨ess', g', r6, _, _, h1, h2, by rw [h3, hsm], rfl, rfl⟩
  · rintro ρ T ⟨ess, g, r6, r7, r9, hl, hk, hsm, rfl, rfl⟩
    have hm : (ess.map List.length).sum ≤ 24 := by
      rw [hsm]
      simp only [List.length_map, List.length_zipIdx]
      omega
    obtain ⟨T', e⟩ := chart_endG (C := C) (O := O) (a := 5) (b := 8) (f := 6) (by decide) (by decide) g s hs ess hl [some ua, some (.d (.int a')), r2, r3, r4, some (.ref O.length), r6, r7, some (.ref (O.length + 1)), r9, r10] rfl rfl (by simp)
    rw [Kc_eq, wp_cons, denS_ret, e]
    refine ⟨_, chart_of s hs ess hl hk hm, ?_, rfl⟩
    unfold chSz
    rw [List.map_map]
    have : ((fun x : Int × Int × List Ed => (x.1, x.2.1)) ∘ fun p : (Int × Int) × List Ed => (p.1.1, p.1.2, p.2)) = Prod.fst := by
      funext p
      rfl
    rw [this, List.map_fst_zip (by omega)]
theorem chartNF_ok (ua : U) (hc : CellNOk C jc ua) (he : EdgeNOk C je) (a' many wide deep : Int) (m1 : 1 ≤ many) (m6 : many ≤ 6) (w1 : 1 ≤ wide) (w10 : wide ≤ 10) (d1 : 1 ≤ deep) (d6 : deep ≤ 6) (cl : List Int) (hsl : ∀ T, slcU O false ua (some a') (some (a' + 14)) T = .ok (.d (.list (cl.map .int))) T) (hcl : cl.length ≤ 14) (nx bk ct : Rho → Cs → Prop) :
    Wp (denB C O (chartNF jc je) [some ua, some (.d (.int a')), some (.d (.int many)), some (.d (.int wide)), some (.d (.int deep)), some (.ref O.length), none, none, none, none, none] [.lst []]) nx bk ct (fun u _ => ∃ ch, ChOk ch ∧ u = .d (.list (chD ch))) := by
  have hR := fun s hs r6 r7 nx bk ct => chartNR_ok (O := O) he s hs ua a' cl hsl hcl (some (.d (.int many))) (some (.d (.int wide))) (some (.d (.int deep))) r6 r7 none none none nx bk ct
  clear hsl
  unfold chartNF
  rw [wp_cons]
  obtain ⟨w0, hw0⟩ := hc O [.lst []] 0 (by decide) (by decide)
  obtain ⟨z, hz⟩ : ∃ z : Int, z = 1 + w0 % many := ⟨_, rfl⟩
  have hz0 : 1 ≤ z ∧ z ≤ 6 := by
    have := Int.emod_nonneg w0 (show many ≠ 0 by omega)
    have := Int.emod_lt_of_pos w0 (show 0 < many by omega)
    omega
  have hm0 : 0 < many := by omega
  refine wp_for ⟨rngU 0 z.toNat 1, none, [.lst []]⟩ [.lst []] (fun i ρ T => ∃ (sz : Sz) (r6 r7 : Option U), sz.length = i ∧ (∀ p ∈ sz, 1 ≤ p.1 ∧ p.1 ≤ 10 ∧ 1 ≤ p.2 ∧ p.2 ≤ 6) ∧ T = [.lst (szD sz)] ∧ ρ = [some ua, some (.d (.int a')), some (.d (.int many)), some (.d (.int wide)), some (.d (.int deep)), some (.ref O.length), r6, r7, none, none, none]) ?_ ?_ (fun _ _ _ _ => rfl) ?_ ?_
  · refine rng1_ok (z := z) ?_ (by simp [rngOk]; omega) rfl
    simp [hw0, hm0, hz]
  · exact ⟨[], none, none, rfl, by simp, rfl, rfl⟩
  · rintro i u hu ρ T ⟨sz, r6, r7, hl, hsz, rfl, rfl⟩
    obtain ⟨hi, rfl⟩ := rngU_get hu
    obtain ⟨iI, hiI⟩ : ∃ iI : Int, iI = (i : Int) := ⟨_, rfl⟩
    have hw0 : (0 + ((i : Nat) : Int) * 1) = iI := by omega
    rw [hw0]
    refine ⟨_, rfl, ?_⟩
    obtain ⟨w, hw⟩ := hc O [.lst (szD sz)] (1 + iI) (by omega) (by omega)
    have hlen : (szD sz).length ≤ 1000000 := by simp [szD]; omega
    have hd0 : 0 < deep := by omega
    have hwd : 0 < wide := by omega
    have q1 := Int.emod_nonneg (w / 2) (show wide ≠ 0 by omega)
    have q2 := Int.emod_lt_of_pos (w / 2) hwd
    have q3 := Int.emod_nonneg (w / 2 / 16) (show deep ≠ 0 by omega)
    have q4 := Int.emod_lt_of_pos (w / 2 / 16) hd0
    have hsn : ∃ sz' : Sz, szD sz ++ [.tuple [.int (1 + w / 2 % wide), .int (1 + w / 2 / 16 % deep)]] = szD sz' ∧ sz'.length = i + 1 ∧ ∀ p ∈ sz', 1 ≤ p.1 ∧ p.1 ≤ 10 ∧ 1 ≤ p.2 ∧ p.2 ≤ 6 := by
      refine ⟨sz ++ [(1 + w / 2 % wide, 1 + w / 2 / 16 % deep)], by simp [szD], by simp [hl], fun x hx => ?_⟩
      rw [List.mem_append] at hx
      rcases hx with hx | hx
      · exact hsz x hx
      · simp at hx
        subst hx
        exact ⟨by omega, by omega, by omega, by omega⟩
    obtain ⟨sz', h1, h2, h3⟩ := hsn
    generalize szD sz = R at h1 hw hlen
    unfold chartNH
    simp [hw, hd0, hwd, hlen, h1]
    exact ⟨sz', h2, fun a b hab => h3 (a, b) hab, rfl⟩
  · rintro ρ T ⟨sz, r6, r7, hl, hsz, rfl, rfl⟩
    have hl : sz.length = z.toNat := by rw [hl]; exact rngU_len
    refine wp_mono2 (hR sz ⟨⟨by omega, by omega⟩, hsz⟩ _ _ _ _ _) fun u T h => ?_
    obtain ⟨ch, h1, h2, h3⟩ := h
    exact ⟨ch, h1, h3⟩
end
theorem cut14 {α : Type} (xs : List α) (a : Int) (h : 0 ≤ a) (m : Int) (hm : 0 ≤ m) : (cut xs (some a) (some (a + m))).length ≤ m.toNat := by
  unfold cut HT.sIx
  simp only [List.length_take, List.length_drop]
  have e1 : ¬ a < 0 := by omega
  have e2 : ¬ a + m < 0 := by omega
  simp [e1, e2]
  omega
theorem chartN_run {G : Pg} {jc je jx : Nat} (hG : G.defs jx = some ⟨5, 11, chartNB jc je⟩) (n : Nat) (ns : List Int) (ua : U) (hua : ua = .d (.list (ns.map .int))) (hc : CellNOk (cn G n) jc ua) (he : EdgeNOk (cn G n) je) (O : Cs) (a' many wide deep : Int) (a0 : 0 ≤ a') (m1 : 1 ≤ many) (m6 : many ≤ 6) (w1 : 1 ≤ wide) (w10 : wide ≤ 10) (d1 : 1 ≤ deep) (d6 : deep ≤ 6) : ∃ ch T', ChOk ch ∧ Y.run G (n + 1) O jx [ua, .d (.int a'), .d (.int many), .d (.int wide), .d (.int deep)] [] = .ok (.d (.list (chD ch))) T' := by
  suffices hg : Gv (Y.run G (n + 1) O jx [ua, .d (.int a'), .d (.int many), .d (.int wide), .d (.int deep)] []) fun u _ => ∃ ch, ChOk ch ∧ u = .d (.list (chD ch)) by
    obtain ⟨u, T', e, ch, h, rfl⟩ := hg.ex
    exact ⟨ch, T', h, e⟩
  refine run_wp hG rfl ?_
  generalize cn G n = C at hc he ⊢
  have hsl : ∀ T, slcU O false ua (some a') (some (a' + 14)) T = .ok (.d (.list ((cut ns (some a') (some (a' + 14))).map .int))) T := by
    intro T
    rw [hua, slcU_L, cut_map, mkL_map]
  have hF := fun many m1 m6 => chartNF_ok (O := O) ua hc he a' many wide deep m1 m6 w1 w10 d1 d6 _ hsl (cut14 ns a' a0 14 (by decide)) (fun _ T' => ∃ ch, ChOk ch ∧ (U.d .none : U) = .d (.list (chD ch))) (fun _ _ => False) (fun _ _ => False)
  have hF1 := hF many m1 m6
  have hF2 := hF 6 (by decide) (by decide)
  obtain ⟨w, hw⟩ := hc O [.lst []] 0 (by decide) (by decide)
  clear hsl hF hua
  unfold chartNB
  generalize chartNF jc je = R at *
  simp [hw]
  exact ⟨fun _ => by simpa using hF2, fun _ => by simpa using hF1⟩
end Y

set_option Elab.async false
set_option linter.all false
set_option maxRecDepth 100000
set_option maxHeartbeats 4000000
namespace Y
open PySem
def edgeAt (ch : Ch) (f k : Int) : Option Ed := if 0 ≤ f ∧ 0 ≤ k then (ch[f.toNat]?).bind fun x => x.2.2[k.toNat]? else none
def Bit (t : List Nat) (d e : Int) : Prop := 0 ≤ d ∧ 0 ≤ e ∧ e < 6 ∧ ∃ r : Nat, t[d.toNat]? = some r ∧ r.testBit e.toNat = true
theorem edge_ok {ch : Ch} (hc : ChOk ch) {f k : Int} {e : Ed} (h : edgeAt ch f k = some e) : 0 ≤ f ∧ 0 ≤ k ∧ ∃ x, ch[f.toNat]? = some x ∧ x.2.2[k.toNat]? = some e ∧ EdOk (chSz ch) f.toNat e := by
  unfold edgeAt at h
  split at h
  · rename_i h0
    rw [Option.bind_eq_some_iff] at h
    obtain ⟨x, hx, he⟩ := h
    exact ⟨h0.1, h0.2, x, hx, he, hc.2.1 _ x hx e (List.mem_of_getElem? he)⟩
  · cases h
theorem sz_of {ch : Ch} {f : Nat} {x : Int × Int × List Ed} (h : ch[f]? = some x) : (chSz ch)[f]? = some (x.1, x.2.1) := by
  simp [chSz, h]
theorem sz_back {ch : Ch} {f : Nat} {P n : Int} (h : (chSz ch)[f]? = some (P, n)) : ∃ x, ch[f]? = some x ∧ x.1 = P ∧ x.2.1 = n := by
  unfold chSz at h
  rw [List.getElem?_map, Option.map_eq_some_iff] at h
  obtain ⟨x, hx, e⟩ := h
  cases e
  exact ⟨x, hx, rfl, rfl⟩
theorem bitT_lt {t : List Nat} {n m d e : Int} (h : TbIn t n m) (hb : Bit t d e) : e < m := by
  obtain ⟨h0, h1, h2, r, hr, ht⟩ := hb
  have hlt := h.2 r (List.mem_of_getElem? hr)
  have h3 := Nat.ge_two_pow_of_testBit ht
  have : e.toNat < m.toNat := (Nat.pow_lt_pow_iff_right (by decide : 1 < 2)).mp (Nat.lt_of_le_of_lt h3 hlt)
  omega
def Ed.ds : Ed → List D
  | .st p q c t => [.str "step", .int p, .int q, .int c, .tuple (nD t)]
  | .ca p q c g a b t => [.str "call", .int p, .int q, .int c, .int g, .tuple (nD a), .tuple (nD b), .tuple (nD t)]
theorem d_ds (e : Ed) : e.d = .tuple (Ed.ds e) := by cases e <;> rfl
theorem fn_at {ch : Ch} {f : Int} {x : Int × Int × List Ed} (h0 : 0 ≤ f) (h : ch[f.toNat]? = some x) : L2.atI (chD ch) f = some (.tuple [.int x.1, .int x.2.1, .list (x.2.2.map Ed.d)]) := by
  have hi := (List.getElem?_eq_some_iff.mp h).1
  rw [atI_nat _ _ h0 (by simp [chD]; omega)]
  simp [chD, h]
theorem es_at {es : List Ed} {k : Int} {e : Ed} (h0 : 0 ≤ k) (h : es[k.toNat]? = some e) : L2.atI (es.map Ed.d) k = some (.tuple (Ed.ds e)) := by
  have hi := (List.getElem?_eq_some_iff.mp h).1
  rw [atI_nat _ _ h0 (by simp; omega)]
  simp [h, d_ds]
theorem ne_same {O T : Cs} {w : Str} (h : lay 0 (.str w)) : cmpU O .ne (.d (.str w)) (.d (.str w)) T = some false := (cmp_same (O := O) (T := T) (x := .d (.str w)) (y := .d (.str w)) rfl rfl (h.shp (by decide)) rfl).2
theorem str_eq {O T : Cs} {a b : Str} (ha : lay 0 (.str a)) (hb : lay 0 (.str b)) : cmpU O .eq (.d (.str a)) (.d (.str b)) T = some (decide (a = b)) := by
  haveI : Decidable ((PyData.str a) = .str b) := decidable_of_iff (a = b) ⟨fun h => by rw [h], fun h => by injection h⟩
  rw [cmp_eqD (ha.shp (by decide)) (hb.shp (by decide)) rfl rfl]
  simp
theorem list_ne {O T : Cs} (ds : List D) (h : shp (.list ds) = true) : cmpU O .ne (.d (.list ds)) (.d (.list [])) T = some (!ds.isEmpty) := by
  have h2 : shp (.list []) = true := rfl
  have h3 : PyData.eqv (.list ds) (.list []) = ds.isEmpty := by
    cases ds <;> rfl
  show (if shp (.list ds) && shp (.list []) then some (!PyData.eqv (.list ds) (.list [])) else none) = _
  rw [h, h2, h3]
  rfl
theorem cut_m1 {α : Type} (xs : List α) (x : α) : cut (xs ++ [x]) none (some (-1)) = xs := by
  unfold cut HT.sIx
  have h3 : (-1 + ((xs.length : Int) + 1)).toNat = xs.length := by omega
  simp [h3]
theorem atI_m1 {α : Type} (xs : List α) (x : α) : L2.atI (xs ++ [x]) (-1) = some x := by
  unfold L2.atI L2.ixN
  have h1 : ¬ (0 ≤ (-1 : Int)) := by decide
  have h2 : 1 ≤ (xs.length : Int) + 1 := by omega
  have h3 : (-1 + ((xs.length : Int) + 1)).toNat = xs.length := by omega
  simp [h1, h2, h3]
theorem isSkip_neg (a : CE) : isSkip (.neg a) = false := rfl
theorem listB_ref {O T : Cs} {r : Nat} {ds : List D} (h : getC O T r = some (.lst ds)) : listB O true T (.ref r) = .ok (.ref (O.length + T.length)) (T ++ [.lst ds]) := by
  unfold listB seqA
  simp [h]
theorem slc_ref {O T : Cs} {r : Nat} {ds : List D} (h : getC O T r = some (.lst ds)) (l k : Option Int) : slcU O false (.ref r) l k T = .ok (.d (.list (cut ds l k))) T := by
  unfold slcU
  simp [h, cut_map]
theorem a5 (a b c d e : D) : L2.atI [a, b, c, d, e] 0 = some a ∧ L2.atI [a, b, c, d, e] 1 = some b ∧ L2.atI [a, b, c, d, e] 2 = some c ∧ L2.atI [a, b, c, d, e] 3 = some d ∧ L2.atI [a, b, c, d, e] 4 = some e := ⟨rfl, rfl, rfl, rfl, rfl⟩
theorem a8 (a b c d e f g h : D) : L2.atI [a, b, c, d, e, f, g, h] 0 = some a ∧ L2.atI [a, b, c, d, e, f, g, h] 1 = some b ∧ L2.atI [a, b, c, d, e, f, g, h] 2 = some c ∧ L2.atI [a, b, c, d, e, f, g, h] 3 = some d ∧ L2.atI [a, b, c, d, e, f, g, h] 4 = some e ∧ L2.atI [a, b, c, d, e, f, g, h] 5 = some f ∧ L2.atI [a, b, c, d, e, f, g, h] 6 = some g ∧ L2.atI [a, b, c, d, e, f, g, h] 7 = some h := ⟨rfl, rfl, rfl, rfl, rfl, rfl, rfl, rfl⟩
def esD (x : Int × Int × List Ed) : List D := x.2.2.map Ed.d
def fnD (x : Int × Int × List Ed) : D := .tuple [.int x.1, .int x.2.1, .list (esD x)]
def ItemR (O T : Cs) (x : Int × Int × List Ed) (w : U) : Prop := w = .d (fnD x) ∨ ∃ j, w = .tup [.d (.int x.1), .d (.int x.2.1), .ref j] ∧ getC O T j = some (.lst (esD x))
def ChRep (O T : Cs) (u : U) (ch : Ch) : Prop := u = .d (.list (chD ch)) ∨ ∃ k rows, u = .ref k ∧ getC O T k = some (.lstU rows) ∧ rows.length = ch.length ∧ ∀ (f : Nat) x, ch[f]? = some x → ∃ j, rows[f]? = some (.tup [.d (.int x.1), .d (.int x.2.1), .ref j]) ∧ getC O T j = some (.lst (esD x))
def Ext (O T O' T' : Cs) : Prop := ∀ i c, getC O T i = some c → getC O' T' i = some c
theorem ItemR.mono {O T O' T' : Cs} {x : Int × Int × List Ed} {w : U} (h : ItemR O T x w) (hm : Ext O T O' T') : ItemR O' T' x w := by
  rcases h with rfl | ⟨j, rfl, hj⟩
  · exact .inl rfl
  · exact .inr ⟨j, rfl, hm _ _ hj⟩
theorem ChRep.mono {O T O' T' : Cs} {ch : Ch} {u : U} (h : ChRep O T u ch) (hm : Ext O T O' T') : ChRep O' T' u ch := by
  rcases h with rfl | ⟨k, rows, rfl, hk, hl, hr⟩
  · exact .inl rfl
  · refine .inr ⟨k, rows, rfl, hm _ _ hk, hl, fun f x hx => ?_⟩
    obtain ⟨j, h1, h2⟩ := hr f x hx
    exact ⟨j, h1, hm _ _ h2⟩
theorem ext_app (O T S : Cs) : Ext O T O (T ++ S) := fun _ _ h => getC_app h
theorem ext_O (O T : Cs) : Ext O T (O ++ T) [] := fun i c h => by rw [getC_O]; exact h
theorem Ext.trans {O T O' T' O'' T'' : Cs} (h : Ext O T O' T') (h' : Ext O' T' O'' T'') : Ext O T O'' T'' := fun i c e => h' i c (h i c e)
theorem ChRep.seq {O T : Cs} {ch : Ch} {u : U} (h : ChRep O T u ch) : ∃ us, seqL O T u = some us ∧ us.length = ch.length ∧ (∀ (f : Nat) x, ch[f]? = some x → ∃ w, us[f]? = some w ∧ ItemR O T x w) ∧ ∀ T', Ext O T O T' → sameW O T T' (watch u) = true := by
  rcases h with rfl | ⟨k, rows, rfl, hk, hl, hr⟩
  · refine ⟨(chD ch).map .d, rfl, by simp [chD], fun f x hx => ⟨.d (fnD x), ?_, .inl rfl⟩, fun T' _ => rfl⟩
    simp [chD, hx, fnD, esD]
  · refine ⟨rows, by simp [hk], hl, fun f x hx => ?_, fun T' hm => sameW_refl hk (hm _ _ hk) (.inr (.inl ⟨_, rfl⟩))⟩
    obtain ⟨j, h1, h2⟩ := hr f x hx
    exact ⟨_, h1, .inr ⟨j, rfl, h2⟩⟩
theorem ItemR.at {O T : Cs} {x : Int × Int × List Ed} {w : U} (h : ItemR O T x w) : ixU O w (.d (.int 0)) T = some (.d (.int x.1)) ∧ ixU O w (.d (.int 1)) T = some (.d (.int x.2.1)) ∧ (∃ v, seqT w = some [.d (.int x.1), .d (.int x.2.1), v] ∧ ixU O w (.d (.int 2)) T = some v ∧ seqL O T v = some ((esD x).map .d) ∧ (v = .d (.list (esD x)) ∨ ∃ j, v = .ref j ∧ getC O T j = some (.lst (esD x)))) ∧ ∀ f : Int, seqT (mkT [.d (.int f), w]) = some [.d (.int f), w] := by
  rcases h with rfl | ⟨j, rfl, hj⟩
  · exact ⟨rfl, rfl, ⟨.d (.list (esD x)), rfl, rfl, rfl, .inl rfl⟩, fun f => rfl⟩
  · exact ⟨rfl, rfl, ⟨.ref j, rfl, rfl, by simp [hj], .inr ⟨j, rfl, hj⟩⟩, fun f => rfl⟩
theorem ChRep.len {O T : Cs} {ch : Ch} {u : U} (h : ChRep O T u ch) : lenB O T u = .ok (.d (.int ch.length)) T := by
  rcases h with rfl | ⟨k, rows, rfl, hk, hl, hr⟩
  · rw [lenB_L]
    simp [chD]
  · rw [lenB_refU hk, hl]
theorem ChRep.toD {O T : Cs} {ch : Ch} {u : U} (h : ChRep O T u ch) : Y.toD O T 3 u = some (.list (chD ch)) := by
  rcases h with rfl | ⟨k, rows, rfl, hk, hl, hr⟩
  · rfl
  · rw [toD_refS, hk]
    have : toDs O T 2 rows = some (chD ch) := by
      clear hk
      induction ch generalizing rows with
      | nil =>
        have : rows = [] := List.eq_nil_of_length_eq_zero hl
        subst this
        rfl
      | cons x ch ih =>
        cases rows with
        | nil => simp at hl
        | cons r rows =>
          obtain ⟨j, h1, h2⟩ := hr 0 x rfl
          simp only [List.getElem?_cons_zero, Option.some.injEq] at h1
          subst h1
          have hh := ih rows (by simpa using hl) (fun f y hy => hr (f + 1) y (by simpa using hy))
          have e : Y.toD O T 2 (.tup [.d (.int x.1), .d (.int x.2.1), .ref j]) = some (fnD x) := by
            rw [toD_tup, toDs_cons, toDs_cons, toDs_cons, toDs_nil, toD_refS, h2]
            rfl
          rw [toDs_cons, e, hh]
          rfl
    show (toDs O T 2 rows).map PyData.list = _
    rw [this]
    rfl
/-- what is seen of a chart -/
structure ChU (O T : Cs) (u : U) (ch : Ch) : Prop where
  len : lenB O T u = .ok (.d (.int ch.length)) T
  at_ : ∀ (f : Int) (x : Int × Int × List Ed), 0 ≤ f → ch[f.toNat]? = some x → ∃ w es, ixU O u (.d (.int f)) T = some w ∧ ixU O w (.d (.int 0)) T = some (.d (.int x.1)) ∧ ixU O w (.d (.int 1)) T = some (.d (.int x.2.1)) ∧ ixU O w (.d (.int 2)) T = some es ∧ lenB O T es = .ok (.d (.int x.2.2.length)) T ∧ ∀ (n : Int) (e : Ed), 0 ≤ n → x.2.2[n.toNat]? = some e → ixU O es (.d (.int n)) T = some (.d (.tuple (Ed.ds e)))
theorem ChRep.u {O T : Cs} {u : U} {ch : Ch} (h : ChRep O T u ch) : ChU O T u ch := by
  refine ⟨h.len, fun f x f0 hx => ?_⟩
  have hlt := (List.getElem?_eq_some_iff.mp hx).1
  rcases h with rfl | ⟨k, rows, rfl, hk, hl, hr⟩
  · refine ⟨.d (fnD x), .d (.list (esD x)), ?_, rfl, rfl, rfl, ?_, fun n e n0 he => ?_⟩
    · rw [ixU_L, fn_at f0 hx]
      rfl
    · rw [lenB_L]
      simp [esD]
    · rw [ixU_L]
      unfold esD
      rw [es_at n0 he]
      rfl
  · obtain ⟨j, h1, h2⟩ := hr _ x hx
    refine ⟨.tup [.d (.int x.1), .d (.int x.2.1), .ref j], .ref j, ?_, rfl, rfl, rfl, ?_, fun n e n0 he => ?_⟩
    · refine ixU_atU hk ?_
      rw [atI_nat _ _ f0 (by omega)]
      exact h1
    · rw [lenB_ref h2]
      simp [esD]
    · refine ixU_at h2 ?_
      unfold esD
      exact es_at n0 he
theorem tree_u (O T : Cs) (L : D) (ch : Ch) (hL : L = .list (chD ch)) : ChU O T (.d L) ch := ChRep.u (.inl (by rw [hL]))
theorem bit_at {t : List Nat} {d e : Int} (h : Bit t d e) : ∃ r : Int, L2.atI (nD t) d = some (.int r) ∧ Builtin.bitAnd (r / 2 ^ e.toNat) 1 = 1 := by
  obtain ⟨h0, h1, h2, r, hr, ht⟩ := h
  refine ⟨(r : Int), ?_, (bit_iff r e.toNat).mpr ht⟩
  have hi := (List.getElem?_eq_some_iff.mp hr).1
  rw [atI_nat _ _ h0 (by simp [nD, nI]; omega)]
  simp [nD, nI, hr]
end Y

set_option Elab.async false
set_option linter.all false
set_option maxRecDepth 100000
set_option maxHeartbeats 4000000
namespace Y
open PySem
theorem compC_inv {f : U → Cs → R (Option U)} {ok : Cs → Bool} {n : Nat} : ∀ (us : List U) (I : Nat → Cs → Prop), (∀ i T, I i T → ok T = true) → (∀ i u, us[i]? = some u → ∀ T, I i T → ∃ oy T' T'', f u T = .ok oy T' ∧ putC n oy T' = .ok () T'' ∧ I (i + 1) T'') → ∀ T, I 0 T → ∃ T', compC f ok n us T = .ok () T' ∧ I us.length T'
  | [], I, ho, _, T, h0 => ⟨T, by rw [compC, if_pos (ho 0 T h0)], h0⟩
  | u :: us, I, ho, h, T, h0 => by
    obtain ⟨oy, T', T'', h2, h3, h4⟩ := h 0 u rfl T h0
    obtain ⟨T3, e, hI⟩ := compC_inv us (fun i => I (i + 1)) (fun i T => ho (i + 1) T) (fun i v hv T => h (i + 1) v hv T) T'' h4
    exact ⟨T3, by rw [compC, if_pos (ho 0 T h0), h2, R.bind_ok, h3, R.bind_ok, e], hI⟩
section
variable {C : Cn} {O T T0 : Cs} {ρ : Rho} {elt t : CE} {g : Tg} {it : IT} {own : List Nat} {us : List U} {w : Option Nat} {tt : Cs} {live : Bool}
/-- turns that change cells: what was put so far is acc -/
theorem comp_w (I : Nat → List U → Cs → Prop) (he : denI C O ρ it T = .ok ⟨us, w, tt⟩ T0) (h0 : I 0 [] (T0 ++ [.lstU []]))
    (hs : ∀ i acc T', I i acc T' → T'[T0.length]? = some (.lstU acc) ∧ sameW O tt T' w = true ∧ acc.length ≤ i)
    (h : ∀ i u, us[i]? = some u → ∀ acc T', I i acc T' → ∃ ρ1, asgT O T' g u (wipeR ρ own) = some ρ1 ∧ ∃ b T1, den C O ρ1 t T' = .ok (.d (.bool b)) T1 ∧ (b = false → I (i + 1) acc T1) ∧ (b = true → ∃ y T'', den C O ρ1 elt T1 = .ok y T'' ∧ T''[T0.length]? = some (.lstU acc) ∧ I (i + 1) (acc ++ [y]) (T''.set T0.length (.lstU (acc ++ [y])))))
    (hl : us.length ≤ 1000000) : ∃ acc T', I us.length acc T' ∧ den C O ρ (.comp live elt g it t own) T = compE O live T0 T' := by
  have key := compC_inv (f := fun u T => match asgT O T g u (wipeR ρ own) with
        | some ρ' => (den C O ρ' t T).bind fun b T => brB (asB b) ((den C O ρ' elt T).bind fun y T => .ok (some y) T) (.ok none T)
        | none => .fail) (ok := fun T' => sameW O tt T' w) (n := T0.length) us (fun i T => i ≤ us.length ∧ ∃ acc, I i acc T) (fun i T hI => by
    obtain ⟨_, acc, hI⟩ := hI
    exact (hs i acc T hI).2.1) (fun i u hu T' hI => by
    obtain ⟨_, acc, hI⟩ := hI
    have hi := (List.getElem?_eq_some_iff.mp hu).1
    obtain ⟨h1, h2, h3⟩ := hs i acc T' hI
    obtain ⟨ρ1, e1, b, T1, e2, hf, ht⟩ := h i u hu acc T' hI
    simp only [e1, e2, R.bind_ok, asB_bool]
    cases b with
    | false => exact ⟨none, T1, T1, rfl, rfl, by omega, acc, hf rfl⟩
    | true =>
      obtain ⟨y, T'', e3, h4, h5⟩ := ht rfl
      refine ⟨some y, T'', T''.set T0.length (.lstU (acc ++ [y])), ?_, putC_at h4 (by omega), by omega, acc ++ [y], h5⟩
      rw [brB_t, e3, R.bind_ok]) (T0 ++ [.lstU []]) ⟨by omega, [], h0⟩
  obtain ⟨T', e, _, acc, hI⟩ := key
  refine ⟨acc, T', hI, ?_⟩
  rw [den, he, R.bind_ok]
  exact (congrArg (fun r : R Unit => r.bind fun _ T' => compE O live T0 T') e).trans rfl
theorem compE_f {T' : Cs} {ds : List D} (h : T'[T0.length]? = some (.lstU (ds.map .d))) : ∃ T'', compE O false T0 T' = .ok (.d (.list ds)) T'' ∧ (T'' = T0 ∨ T'' = T'.set T0.length .dead) := by
  unfold compE
  simp only [h, allD_map, Bool.false_eq_true, if_false]
  split
  · exact ⟨_, rfl, .inl rfl⟩
  · exact ⟨_, rfl, .inr rfl⟩
theorem compE_t {T' : Cs} {us : List U} (h : T'[T0.length]? = some (.lstU us)) : compE O true T0 T' = .ok (.ref (O.length + T0.length)) (T'.set T0.length (cellOf us)) := by
  unfold compE
  simp only [h, if_true]
end
theorem Chg.refl {O T : Cs} {r : Nat} (h : StAt O T r) : Chg O r T T := by
  have := Chg.app h []
  simpa using this
theorem Chg.at_len {O T T' : Cs} {r k : Nat} {c : Cell} (hs : StAt O T r) (h : Chg O r (T ++ [c]) T') (hk : k = T.length) : T'[k]? = some c := by
  obtain ⟨s, g, rfl⟩ := h
  subst hk
  obtain ⟨_, _, hlt⟩ := hs.get
  rw [List.getElem?_append_left (by simp), List.getElem?_set_ne (by omega)]
  simp
/-- numbers drawn, so many -/
theorem nexts_ok {C : Cn} {jn : Nat} (hn : NextOk C jn) (O T : Cs) (r : Nat) (m : Int) (hs : StAt O T r) (hm : 0 < m) (ρ : Rho) (a b k : Nat) (ha : ρ[a]? = some (some (.ref r))) (hb : ρ[b]? = some (some (.d (.int m)))) (hka : k ≠ a) (hkb : k ≠ b) (hk : k < ρ.length) (e : CE) (z : Int) (he : den C O ρ e T = .ok (.d (.int z)) T) (z0 : 0 ≤ z) (z1 : z ≤ 1000) :
    ∃ (vs : List Int) (T' : Cs), (vs.length : Int) = z ∧ (∀ v ∈ vs, 0 ≤ v ∧ v < m) ∧ StAt O T' r ∧ Chg O r T T' ∧ den C O ρ (.comp false (.call true jn (.cons (.v a) (.cons (.v b) .nil)) []) (.nm k) (.rng1 e) (.c (.bool true)) [k]) T = .ok (.d (.list (vs.map .int))) T' := by
  obtain ⟨_, _, hlt⟩ := hs.get
  have hro : rngOk 0 z = true := by simp [rngOk]; omega
  have hI : denI C O ρ (.rng1 e) T = .ok ⟨rngU 0 z.toNat 1, none, T⟩ T := rng1_ok he hro rfl
  obtain ⟨acc, T', ⟨vs, h1, rfl, h2, h3, h4, h5⟩, ee⟩ := comp_w (C := C) (O := O) (live := false) (elt := .call true jn (.cons (.v a) (.cons (.v b) .nil)) []) (g := .nm k) (t := .c (.bool true)) (own := [k])
    (fun i acc T' => ∃ vs : List Int, vs.length = i ∧ acc = (vs.map PyData.int).map .d ∧ (∀ v ∈ vs, 0 ≤ v ∧ v < m) ∧ StAt O T' r ∧ Chg O r T T' ∧ T'[T.length]? = some (.lstU acc)) hI
    ⟨[], rfl, rfl, by simp, hs.app _, Chg.app hs _, by simp⟩
    (fun i acc T' ⟨vs, h1, h2, _, _, _, h5⟩ => ⟨h5, rfl, by rw [h2]; simp; omega⟩)
    (fun i u hu acc T' ⟨vs, h1, h2, h3, h4, h5, h6⟩ => by
      obtain ⟨v, T1, b0, b1, s1, c1, e1⟩ := hn.chg O T' r m h4 hm
      have hlo := h4.lo
      have hl' := chg_len h5
      refine ⟨_, asgT_nm .., true, T', den_c .., fun hh => (by cases hh), fun _ => ⟨.d (.int v), T1, ?_, ?_, vs ++ [v], by simp [h1], by simp [h2], ?_, ?_, ?_, ?_⟩⟩
      · have g1 : ((wipeR ρ [k]).set k (some u))[a]? = some (some (.ref r)) := by simp [wipeR, List.getElem?_set_ne hka, ha]
        have g2 : ((wipeR ρ [k]).set k (some u))[b]? = some (some (.d (.int m))) := by simp [wipeR, List.getElem?_set_ne hkb, hb]
        simp [g1, g2, e1]
      · obtain ⟨s, g, rfl⟩ := c1
        have hT : T.length < T'.length := (List.getElem?_eq_some_iff.mp h6).1
        rw [List.getElem?_append_left (by simpa using hT), List.getElem?_set_ne (by omega)]
        exact h6
      · intro x hx
        rw [List.mem_append] at hx
        rcases hx with hx | hx
        · exact h3 x hx
        · simp only [List.mem_singleton] at hx
          subst hx
          exact ⟨b0, b1⟩
      · exact s1.setb (by omega)
      · exact (h5.trans hs c1).setb (Nat.le_refl _)
      · have hT : T.length < T1.length := by have := chg_len c1; have := (List.getElem?_eq_some_iff.mp h6).1; omega
        rw [List.getElem?_set_self hT])
    (by rw [rngU_len]; omega)
  rw [rngU_len] at h1
  obtain ⟨T'', e2, hT⟩ := compE_f (O := O) (T0 := T) h5
  rw [e2] at ee
  rcases hT with rfl | rfl
  · exact ⟨vs, T'', by omega, h2, hs, Chg.refl hs, ee⟩
  · exact ⟨vs, _, by omega, h2, h3.setb (by omega), h4.setb (Nat.le_refl _), ee⟩
end Y

set_option Elab.async false
set_option linter.all false
set_option maxRecDepth 100000
set_option maxHeartbeats 1000000
namespace Y
open PySem PySem.Spec L2
section
variable {P : Program} {w : World} {K : PySem.W.Frag} {mg : Str → Option Value} {base : Heap} {ca : Nat → Addr}
theorem fun_mkD {x qual : Str} {st : Stmt} {f Tt : Addr} {oc : Value} {od an odT : Option Addr} {osl osT : Array (Option Value)} {kV doc pm cdv ct : Value} {dT : Data} {dvs : List V} (l : K.lookup f = some ⟨oc, od, .func (PySem.W.fnOf x qual (defArgs st) (defBody st) (defScope st) (.ref Tt) kV doc pm an cdv ct), osl⟩)
    (c : PySem.W.codeIn K cdv qual = true) (k : PySem.W.keepIn K (.ref f) = true) (dl : K.lookup Tt = some ⟨.type "tuple", odT, dT, osT⟩) (dv : ∃ (its : Array Value) (n : Nat), dT = .seq its n ∧ Vals dvs its.toList) (hd : dvs ≠ []) : FunD K x qual (defArgs st) (defBody st) (defScope st) dvs [] f (PySem.W.fnOf x qual (defArgs st) (defBody st) (defScope st) (.ref Tt) kV doc pm an cdv ct) := by
  obtain ⟨its, n, e, hv⟩ := dv
  subst e
  exact ⟨⟨oc, od, .ref Tt, kV, doc, pm, an, cdv, ct, osl, rfl, l, c, .inr ⟨hd, Tt, _, its.toList, n, rfl, dl, by simp, hv⟩, .inl rfl⟩, k⟩
theorem def_okD {x qual : Str} {st : Stmt} {f : Addr} {fd : FuncData} {N ps : List Str} {sc : Scope} {vm : List Bool} {dvs : List V} {G : Pg} {j np ns n : Nat} {b : CB} (F : FunD K x qual (defArgs st) (defBody st) (defScope st) dvs [] f fd) (hsc : defScope st = sc) (S : FnScope N ps sc) (hG : G.defs j = some ⟨np, ns, b⟩) (hps : ps.length = np) (hns : N.length = ns)
    (hn : decide N.Nodup = true) (hv : visAll N sc vm = true) (ht : tgtAll N sc vm = true)
    (hb : ∀ X : Cx, X.prog = P → X.w = w → X.K = K → X.mg = mg → X.base = base → Cg X N sc vm vm (2 * n + 2) → PSs X (defBody st) (RBl ca (cn G n) b)) : FnOk P w K mg base CX0 (2 * n + 3) f fd ps (spR ca (run G (n + 1)) j np) := by
  subst hsc
  refine F.ok S (fun vs H Q E h => ?_) (fun cdv A outer s H vs Q E hr h => ⟨_, (hb _ rfl rfl rfl rfl rfl (Cg.ofDef hn hv ht hr)).nox, ?_⟩)
  · obtain ⟨φ, G0, O, T, us, hl, s, r, q⟩ := h
    rw [r.length, hl, hps]
  · obtain ⟨φ, G0, O, T, us, hl, s, r, q⟩ := h
    rw [run, hG] at q
    have q : Pc ca rU φ G0 O (if us.length = np then match denB (cn G n) O b (us.map some ++ List.replicate (ns - us.length) none) T with
    | .nx _ T' => .ok (.d .none) T'
    | .rt u T' => .ok u T'
    | .exc c fs _ T' => .exc c fs T'
    | _ => .fail else .fail) Q := q
    rw [if_pos hl] at q
    refine ⟨φ, G0, O, us.map some ++ List.replicate (ns - us.length) none, T, ⟨s, ?_, ?_⟩, ?_⟩
    · show Lo G0 φ (vs.map some ++ List.replicate (N.length - vs.length) none) _
      rw [hns, r.length]
      exact start_lo _ r
    · show (vs.map some ++ List.replicate (N.length - vs.length) none).length = _
      simp [hns, r.length]
    · cases e : denB (cn G n) O b (us.map some ++ List.replicate (ns - us.length) none) T with
      | nx ρ T' =>
        rw [e] at q
        exact fun σ φ' G' H' f t => q .non φ' G' H' f t.s (.d .non)
      | rt u T' =>
        rw [e] at q
        exact fun v φ' G' H' f s r => q v φ' G' H' f s r
      | bk ρ T' => rw [e] at q; exact q.elim
      | ct ρ T' => rw [e] at q; exact q.elim
      | exc => rw [e] at q; exact q.elim
      | fail => rw [e] at q; exact q.elim
/-- keywords in a call, all defaults of a tuple -/
theorem FunD.kb {x qual : Str} {params : Arguments} {body : List Stmt} {scope : Scope} {dvs : List V} {f : Addr} {fd : FuncData} {ps : List Str} (F : FunD K x qual params body scope dvs [] f fd) (n : Nat) (ks : List Str) (g : {α : Type} → List α → List α → List α → List α) (hd : dvs ≠ [])
    (hrel : ∀ {vs ds zs : List V} {us its ws : List Value}, Vals vs us → Vals ds its → Vals zs ws → Vals (g vs ds zs) (g us its ws))
    (h : ∀ (T : Addr) (kV doc pm : Value) (an : Option Addr) (cdv ct : Value) (us its ws : List Value), us.length = n → its.length = dvs.length → ws.length = ks.length →
      ∃ k, bindArgs (PySem.W.fnOf x qual params body scope (.ref T) kV doc pm an cdv ct) ⟨us, ks.zip ws⟩ = seqItems? (.ref T) >>= k ∧ k (some its.toArray) = pure (ps.zip (g us its ws))) : ∃ its : List Value, KBn K fd ps n ks (fun us ws => g us its ws) (fun vs zs => g vs dvs zs) := by
  obtain ⟨oc, od, dV, kV, doc, pm, an, cdv, ct, osl, rfl, lk, hcd, hD, hK⟩ := F.ex
  rcases hD with ⟨e, _⟩ | ⟨_, T, o, its, m, rfl, lT, oT, rT⟩
  · exact absurd e hd
  · refine ⟨its, ⟨fun s us ws X l1 l2 => ?_, fun r1 r2 => hrel r1 rT r2⟩⟩
    obtain ⟨k, e1, e2⟩ := h T kV doc pm an cdv ct us its ws l1 rT.length.symm l2
    refine BindsTo.of_looks fun M => ?_
    rw [e1]
    exact looks_items X lT oT (.of_pure e2)
end
/-- a def that may be called by the name x with keywords ks behind npos values; ds fills the places between -/
structure CalK (P : Program) (w : World) (K : PySem.W.Frag) (mg : Str → Option Value) (base : Heap) (ca : Nat → Addr) (call : Cs → Nat → List U → Cs → R U) (n j np : Nat) (x : Str) (npos : Nat) (ks : List Str) (ds : List Y.D) : Prop where
  ex : ∃ (f : Addr) (fd : FuncData) (ps : List Str) (dvs : List V) (g : List Value → List Value → List Value) (gV : List V → List V → List V), FnOk P w K mg base CX0 n f fd ps (spR ca call j np) ∧ mg x = some (.ref f) ∧ PySem.W.keepIn K (.ref f) = true ∧ KBn K fd ps npos ks g gV ∧ (∀ vs zs, vs.length = npos → zs.length = ks.length → gV vs zs = vs ++ dvs ++ zs) ∧ ∀ G, Rps G dvs ds
  len : ∀ O us T, us.length ≠ np → call O j us T = .fail
def consCA : List Y.D → CA → CA
  | [], k => k
  | d :: ds, k => .cons (.c d) (consCA ds k)
def appCA (ds : List Y.D) (k : CA) : CA → CA
  | .nil => consCA ds k
  | .cons a r => .cons a (appCA ds k r)
termination_by structural as => as
def lenCA : CA → Nat
  | .nil => 0
  | .cons _ r => lenCA r + 1
termination_by structural as => as
theorem denA_consCA (C : Cn) (O : Cs) (ρ : Rho) (k : CA) (T : Cs) : ∀ ds : List Y.D, denA C O ρ (consCA ds k) T = (denA C O ρ k T).bind fun zs T2 => .ok (ds.map .d ++ zs) T2
  | [] => by
    show denA C O ρ k T = _
    cases denA C O ρ k T <;> rfl
  | d :: ds => by
    show denA C O ρ (.cons (.c d) (consCA ds k)) T = _
    have : den C O ρ (.c d) T = .ok (.d d) T := by rw [den]
    rw [denA, this, R.bind_ok, denA_consCA C O ρ k T ds]
    cases denA C O ρ k T <;> rfl
theorem denA_app (C : Cn) (O : Cs) (ρ : Rho) (ds : List Y.D) (k : CA) : ∀ (as : CA) (T : Cs), denA C O ρ (appCA ds k as) T = (denA C O ρ as T).bind fun us T1 => (denA C O ρ k T1).bind fun zs T2 => .ok (us ++ ds.map .d ++ zs) T2
  | .nil, T => by
    have h0 : denA C O ρ .nil T = .ok [] T := by rw [denA]
    rw [h0, R.bind_ok]
    show denA C O ρ (consCA ds k) T = _
    rw [denA_consCA]
    rfl
  | .cons a r, T => by
    show denA C O ρ (.cons a (appCA ds k r)) T = _
    rw [denA, denA]
    cases den C O ρ a T with
    | ok u T1 =>
      simp only [R.bind_ok]
      rw [denA_app C O ρ ds k r T1]
      cases denA C O ρ r T1 with
      | ok us T2 =>
        rw [R.bind_ok, R.bind_ok, R.bind_ok]
        cases denA C O ρ k T2 <;> rfl
      | exc => rfl
      | fail => rfl
    | exc => rfl
    | fail => rfl
section
variable {ca : Nat → Addr} {X : Cx} {C : Cn} {p pos : Pos} {e : Expr} {es : List Expr} {as ka cc : CA} {N : List Str} {sc : Scope} {vm tm : List Bool} {n j np npos : Nat} {x : Str}
theorem k_nil : PK X [] (RA ca C .nil) := ⟨fun kpos pins s σ H Q I q => pk_nil.run kpos pins s σ H Q I (by
  obtain ⟨φ, G, O, ρ, T, t, h⟩ := q
  rw [denA] at h
  exact Pc.now h t.s .nil)⟩
theorem k_cons {nm : Option Str} {a : Expr} {ea : CE} {kpos : Pos} {kws : List Keyword} (ha : PE X a (RE ca C ea)) (hr : PK X kws (RA ca C ka)) : PK X (⟨nm, a, kpos⟩ :: kws) (RA ca C (.cons ea ka)) := ⟨fun kp pins s σ H Q I q => (pk_cons ha hr).run kp pins s σ H Q I (by
  obtain ⟨φ, G, O, ρ, T, t, h⟩ := q
  rw [denA] at h
  refine ⟨φ, G, O, ρ, T, t, Pc.imp h.bind ?_⟩
  rintro x H1 ⟨φ1, G1, T1, u, f1, s1, r1, h1⟩
  refine ⟨φ1, G1, O, ρ, T1, ⟨s1, f1.lo t.l, t.n⟩, Pc.imp h1.bind ?_⟩
  rintro y H2 ⟨φ2, G2, T2, w, f2, s2, r2, h2⟩
  exact Pc.now h2 s2 (.cons (f2.u r1) r2))⟩
/-- a call that leaves what is not right out -/
theorem callAny_ok {φ : List Addr} {G H : Hp} {O T : Cs} {vs : List V} {us : List U} {l : Bool} {Q : VK} {E : XK} (hlen : ∀ O us T, us.length ≠ np → C.call O j us T = .fail) (h : Pc ca rU φ G O (if l = true then C.call O j us T else callP C O j us T) Q) (s : Sd ca φ G H (O ++ T)) (r : RpUs G φ vs us) : spR ca C.call j np vs H Q E := by
  by_cases hn : us.length = np
  · cases l with
    | true => rw [if_pos rfl] at h; exact callL_ok hn h Fut.refl s r
    | false => rw [if_neg Bool.false_ne_true] at h; exact callP_ok hn h Fut.refl s r
  · cases l with
    | true => rw [if_pos rfl, hlen _ _ _ hn] at h; exact h.elim
    | false =>
      rw [if_neg Bool.false_ne_true] at h
      unfold callP at h
      rw [hlen _ _ _ hn] at h
      exact h.elim
theorem denA_len : ∀ (as : CA) (O T T' : Cs) (ρ : Rho) (us : List U), denA C O ρ as T = .ok us T' → us.length = lenCA as
  | .nil, O, T, T', ρ, us, h => by
    rw [denA] at h
    cases h
    rfl
  | .cons a r, O, T, T', ρ, us, h => by
    rw [denA] at h
    cases e : den C O ρ a T with
    | ok u T1 =>
      rw [e, R.bind_ok] at h
      cases e2 : denA C O ρ r T1 with
      | ok ws T2 =>
        rw [e2, R.bind_ok] at h
        cases h
        simp [lenCA, denA_len r _ _ _ _ ws e2]
      | exc => rw [e2] at h; cases h
      | fail => rw [e2] at h; cases h
    | exc => rw [e] at h; cases h
    | fail => rw [e] at h; cases h
theorem y_callK (g : Cg X N sc vm tm n) {l : Bool} {kws : List Keyword} {ks : List Str} {ds : List Y.D} (F : CalK X.prog X.w X.K X.mg X.base ca C.call n j np x npos ks ds) (ha : PA X (e :: es) (RA ca C as)) (hk : PK X kws (RA ca C ka)) (hc : appCA ds ka as = cc) (h1 : lenCA as = npos := by rfl) (h2 : lenCA ka = ks.length := by rfl) (hg : sc.names.lookup x = some .globalImplicit := by rfl) (hdb : (x == ("__debug__" : Str)) = false := by decide)
    (hall : (backToKw pos (keywordEach kws X.env)).all (·.1.isSome) = true := by rfl) (hks : (backToKw pos (keywordEach kws X.env)).filterMap (·.1) = ks := by rfl) (he : starEach (e :: es) X.env = (false, eval e X.env) :: starEach es X.env := by rfl)
    (hpl : ((backTo pos (starEach (e :: es) X.env)).any (·.1) || (backToKw pos (keywordEach kws X.env)).any (·.1.isNone)) = false := by rfl) : PE X (.Call (.Name x p) (e :: es) kws pos) (RE ca C (.call l j cc [])) := by
  obtain ⟨f, fd, ps, dvs, gg, gV, q1, q2, q3, q4, q5, q6⟩ := F.ex
  refine (pe_callN q1 g.room (gl_of g hg) q2 q3 q4 (E := E0) pass0 ha hk hall hks hdb he hpl).imp ?_
  rintro σ H Q ⟨φ, G, O, ρ, T, t, h⟩
  subst hc
  have e0 : den C O ρ (.call l j (appCA ds ka as) []) T = (denA C O ρ as T).bind fun us T1 => (denA C O ρ ka T1).bind fun zs T2 => if l = true then C.call O j (us ++ ds.map .d ++ zs) T2 else callP C O j (us ++ ds.map .d ++ zs) T2 := by
    rw [den, denA_app]
    cases denA C O ρ as T with
    | ok us T1 =>
      simp only [R.bind_ok]
      cases denA C O ρ ka T1 with
      | ok zs T2 => simp only [R.bind_ok, List.map_nil, List.append_nil]
      | exc => rfl
      | fail => rfl
    | exc => rfl
    | fail => rfl
  rw [e0] at h
  cases ea : denA C O ρ as T with
  | ok us0 T0 =>
    have l1 := denA_len as _ _ _ _ _ ea
    cases ek : denA C O ρ ka T0 with
    | ok zs0 T00 =>
      have l2 := denA_len ka _ _ _ _ _ ek
      refine ⟨φ, G, O, ρ, T, t, ?_⟩
      rw [ea]
      intro vs φ1 G1 H1 f1 s1 r1
      refine ⟨φ1, G1, O, ρ, T0, ⟨s1, f1.lo t.l, t.n⟩, ?_⟩
      rw [ek]
      intro zs φ2 G2 H2 f2 s2 r2
      rw [ea, R.bind_ok, ek, R.bind_ok] at h
      have lv := (RpUs.length r1).trans (l1.trans h1)
      have lz := (RpUs.length r2).trans (l2.trans h2)
      refine ⟨lv, lz, ?_⟩
      rw [q5 vs zs lv lz]
      have r3 : RpUs G2 φ2 (vs ++ dvs ++ zs) (us0 ++ ds.map U.d ++ zs0) := RpUs.append (RpUs.append (f2.us r1) (dv_ok q6)) r2
      exact callAny_ok F.len (h.later (f1.trans f2)) s2 r3
    | exc => rw [ea, R.bind_ok, ek] at h; exact h.elim
    | fail => rw [ea, R.bind_ok, ek] at h; exact h.elim
  | exc => rw [ea] at h; exact h.elim
  | fail => rw [ea] at h; exact h.elim
end
def eltI (C : Cn) (O : Cs) (ρ : Rho) : U → Cs → R (Option U) := fun u T => match asgT O T (.nm 0) u (wipeR ρ []) with
        | some ρ' => (den C O ρ' (.c (.bool true)) T).bind fun b T => brB (asB b) ((den C O ρ' (.v 0) T).bind fun y T => .ok (some y) T) (.ok none T)
        | none => .fail
theorem eltI_ok (C : Cn) (O : Cs) {ρ : Rho} (h : 0 < ρ.length) (u : U) (T : Cs) : eltI C O ρ u T = .ok (some u) T := by
  unfold eltI
  cases ρ with
  | nil => simp at h
  | cons a r => simp [wipeR]
theorem eltI_no (C : Cn) (O : Cs) (u : U) (T : Cs) : eltI C O [] u T = .fail := by
  unfold eltI
  simp [wipeR]
theorem compC_id (C : Cn) (O T : Cs) {ρ : Rho} (h : 0 < ρ.length) : ∀ (us acc : List U), acc.length ≤ 1000001 → compC (eltI C O ρ) (fun T' => sameW O T T' none) T.length us (T ++ [.lstU acc]) = if acc.length + us.length ≤ 1000001 then .ok () (T ++ [.lstU (acc ++ us)]) else .fail
  | [], acc, ha => by
    rw [compC, if_pos (show sameW O T (T ++ [Cell.lstU acc]) none = true from rfl), if_pos (by simpa using ha)]
    simp
  | u :: us, acc, ha => by
    rw [compC, if_pos (show sameW O T (T ++ [Cell.lstU acc]) none = true from rfl), eltI_ok C O h, R.bind_ok]
    unfold putC
    have e5 : (T ++ [Cell.lstU acc])[T.length]? = some (.lstU acc) := by simp
    simp only [e5]
    by_cases q : acc.length ≤ 1000000
    · rw [if_pos (by simpa [sizeOk] using q), R.bind_ok]
      have e6 : (T ++ [Cell.lstU acc]).set T.length (.lstU (acc ++ [u])) = T ++ [.lstU (acc ++ [u])] := by
        rw [List.set_append_right (h := Nat.le_refl _)]
        simp
      rw [e6, compC_id C O T h us (acc ++ [u]) (by simp; omega)]
      have e7 : (acc ++ [u]).length + us.length = acc.length + (u :: us).length := by simp; omega
      rw [e7]
      simp
    · rw [if_neg (by simpa [sizeOk] using q), if_neg (by simp; omega)]
      rfl
theorem rngU_map (i : Int) (n : Nat) : rngU i n 1 = ((List.range n).map fun k : Nat => PyData.int (i + (k : Int))).map U.d := by
  unfold rngU
  rw [List.map_map]
  refine List.map_congr_left fun k _ => ?_
  show U.d (.int (i + (k : Int) * 1)) = U.d (.int (i + (k : Int)))
  rw [Int.mul_one]
/-- what the written part gives -/
theorem rngC_ok (C : Cn) (O T : Cs) (ρ : Rho) (l : Bool) (us : List U) (ds : List Y.D) (hd : us = ds.map .d) {r : R U} (hr : r = ((compC (eltI C O ρ) (fun T' => sameW O T T' none) T.length us (T ++ [.lstU []])).bind fun _ T' => compE O l T T')) : (us.length ≤ 1000001 ∧ r = mkL O l us T) ∨ r = .fail := by
  subst hr
  have fin : (compE O l T (T ++ [.lstU us])) = mkL O l us T := by
    unfold compE
    have e5 : (T ++ [Cell.lstU us])[T.length]? = some (.lstU us) := by simp
    have e6 : allD us = some ds := by rw [hd, allD_map]
    rw [e5]
    simp only [e6]
    cases l with
    | true =>
      simp
    | false =>
      simp [beqCs_r, e6]
  cases us with
  | nil =>
    left
    refine ⟨by simp, ?_⟩
    rw [compC, if_pos (show sameW O T (T ++ [Cell.lstU []]) none = true from rfl), R.bind_ok]
    exact fin
  | cons u us =>
    by_cases h : 0 < ρ.length
    · rw [compC_id C O T h (u :: us) [] (by simp)]
      by_cases q : (u :: us).length ≤ 1000001
      · left
        refine ⟨q, ?_⟩
        rw [if_pos (by simpa using q), R.bind_ok]
        exact fin
      · right
        rw [if_neg (by simpa using q)]
        rfl
    · right
      have : ρ = [] := List.eq_nil_of_length_eq_zero (by omega)
      subst this
      rw [compC, if_pos (show sameW O T (T ++ [Cell.lstU []]) none = true from rfl), eltI_no]
      rfl
section
variable {ca : Nat → Addr} {X : Cx} {C : Cn} {p p2 pos pos2 : Pos} {a b : Expr} {ea eb : CE} {N : List Str} {sc : Scope} {vm tm : List Bool} {n : Nat}
theorem y_lrng (g : Cg X N sc vm tm n) {l : Bool} (hL : X.mg "list" = none) (hR : X.mg "range" = none) (ha : PE X a (RE ca C ea)) (hb : PE X b (RE ca C eb)) (gl : sc.names.lookup ("list" : Str) = some .globalImplicit := by rfl) (gr : sc.names.lookup ("range" : Str) = some .globalImplicit := by rfl)
    (na : starEach [a, b] X.env = (false, eval a X.env) :: starEach [b] X.env := by rfl) (nb : starEach [b] X.env = (false, eval b X.env) :: starEach [] X.env := by rfl) (hp : (backTo pos2 (starEach [b] X.env)).any (·.1) = false := by rfl)
    (na2 : starEach [.Call (.Name "range" p2) [a, b] [] pos2] X.env = (false, eval (.Call (.Name "range" p2) [a, b] [] pos2) X.env) :: starEach [] X.env := by rfl) :
    PE X (.Call (.Name "list" p) [.Call (.Name "range" p2) [a, b] [] pos2] [] pos) (RE ca C (.comp l (.v 0) (.nm 0) (.rng2 ea eb) (.c (.bool true)) [])) := by
  refine (pe_listRg g.calm (gl_of g gl) hL (prg_2 (gl_of g gr) hR ha hb na nb hp) na2).imp ?_
  rintro σ H Q ⟨φ, G, O, ρ, T, t, h⟩
  have e0 : den C O ρ (.comp l (.v 0) (.nm 0) (.rng2 ea eb) (.c (.bool true)) []) T = (denI C O ρ (.rng2 ea eb) T).bind fun its T0 => (compC (eltI C O ρ) (fun T' => sameW O its.t T' its.w) T0.length its.us (T0 ++ [.lstU []])).bind fun _ T' => compE O l T0 T' := by
    rw [den]
    rfl
  rw [e0, denI_rng2] at h
  refine ⟨φ, G, O, ρ, T, t, ?_⟩
  cases e1 : den C O ρ ea T with
  | exc => rw [e1] at h; exact h.elim
  | fail => rw [e1] at h; exact h.elim
  | ok x T1 =>
    rw [e1, R.bind_ok] at h
    intro v φ1 G1 H1 f1 s1 r1
    refine ⟨φ1, G1, O, ρ, T1, ⟨s1, f1.lo t.l, t.n⟩, ?_⟩
    cases e2 : den C O ρ eb T1 with
    | exc => rw [e2] at h; exact h.elim
    | fail => rw [e2] at h; exact h.elim
    | ok y T2 =>
      rw [e2, R.bind_ok] at h
      intro w φ2 G2 H2 f2 s2 r2
      have h' : ∃ i j, x = .d (.int i) ∧ y = .d (.int j) := by
        revert h
        cases x with
        | d dx =>
          cases dx with
          | int i =>
            cases y with
            | d dy =>
              cases dy with
              | int j => exact fun _ => ⟨i, j, rfl, rfl⟩
              | _ => exact fun h => h.elim
            | _ => exact fun h => h.elim
          | _ => exact fun h => h.elim
        | _ => exact fun h => h.elim
      obtain ⟨i, j, rfl, rfl⟩ := h'
      have hv : v = .int i := by cases r1 with | d r => cases r; rfl
      have hw : w = .int j := by cases r2 with | d r => cases r; rfl
      refine ⟨i, j, hv, hw, ?_⟩
      simp only at h
      by_cases q : rngOk i j = true
      · rw [if_pos q, R.bind_ok] at h
        simp only at h
        have hsz := rngOk_ok q
        rcases rngC_ok C O T2 ρ l (rngU i (j - i).toNat 1) _ (rngU_map i _) rfl with ⟨k1, k2⟩ | k2
        · rw [k2] at h
          rw [rngU_len] at k1
          refine ⟨⟨hsz.1.1, hsz.1.2, hsz.2.1, hsz.2.2, by omega⟩, fun q2 hq2 => ?_⟩
          refine mkL_ok (h.later (f1.trans f2)) s2 ?_ hq2
          rw [rngU_map]
          unfold rgV
          generalize List.range (j - i).toNat = ks
          induction ks with
          | nil => exact .nil
          | cons k ks ih => exact .cons (.d (.int _)) ih
        · rw [k2] at h
          exact h.elim
      · rw [if_neg q] at h
        exact h.elim
end
end Y

set_option Elab.async false
set_option linter.all false
set_option maxRecDepth 100000
set_option maxHeartbeats 1000000
namespace Y
open PySem PySem.Spec L2
open PySem.Sem (wp)
/-- something that is gone along by an iterator: where it stands, what comes next -/
structure Src (prog : Program) (w : World) (it l : Addr) (xs : Array Value) where
  on : Nat → Heap → Prop
  keep : ∀ {i : Nat} {h h' : Heap}, on i h → (∀ c o, (c = it ∨ c = l) → h.get? c = some o → h'.get? c = some o) → on i h'
  item : ∀ {A : Around} {E : Value → Shared → Prop} {s : Shared} {i : Nat} {x : Value} {Q : Value → Shared → Prop}, on i s.heap → xs[i]? = some x →
    (∀ h', on (i + 1) h' → Heap.SameBut it s.heap h' → Q x { s with heap := h' }) → wpAny (model prog w) A (Builtin.SmallTypes.nextOf (.ref it)) Q E s
  stop : ∀ {A : Around} {E : Value → Shared → Prop} {s : Shared} {i : Nat} {Q : Value → Shared → Prop}, A.handled = none → on i s.heap → xs[i]? = none →
    (∀ h' e, Heap.ExtBut it s.heap h' → (∃ o, h'.get? e = some o ∧ o.cls = .type "StopIteration") → E (.ref e) { s with heap := h' }) → wpAny (model prog w) A (Builtin.SmallTypes.nextOf (.ref it)) Q E s
def srcT (prog : Program) (w : World) {it l : Addr} (xs : Array Value) (ne : l ≠ it) : Src prog w it l xs where
  on := fun i h => h.IsTupleIter it l i ∧ h.IsTuple l xs
  keep := fun ⟨a, o, b, c⟩ k => ⟨a.at fun o q => k _ o (.inl rfl) q, o, k _ _ (.inr rfl) b, c⟩
  item := fun on hx k => RZ.nextOf_tuple_item on.1 on.2 hx fun h' a b => k h' ⟨a, by obtain ⟨o, q, c⟩ := on.2; exact ⟨o, b.extBut _ _ ne q, c⟩⟩ b
  stop := fun hh on hx k => RZ.nextOf_tuple_end hh on.1 on.2 hx k
def srcL (prog : Program) (w : World) {it l : Addr} (xs : Array Value) (ne : l ≠ it) : Src prog w it l xs where
  on := fun i h => h.IsListIter it l i ∧ h.IsList l xs
  keep := fun ⟨a, b⟩ k => ⟨a.at fun o q => k _ o (.inl rfl) q, b.at fun o q => k _ o (.inr rfl) q⟩
  item := fun on hx k => wpAny_nextOf_list_item on.1 on.2 hx fun h' a b => k h' ⟨a, on.2.at fun o q => b.extBut _ _ ne q⟩ b
  stop := fun hh on hx k => wpAny_nextOf_list_end hh on.1 on.2 hx k

section
variable {prog : Program} {w : World} {A : Around} {E : Value → Shared → Prop} {s : Shared}
/-- what a turn of zip leaves as it was -/
abbrev ZKeep (z TO i1 i2 : Addr) (h h' : Heap) : Prop := ∀ c o, c ≠ z → c ≠ TO → c ≠ i1 → c ≠ i2 → h.get? c = some o → h'.get? c = some o
theorem Src.ext {it l : Addr} {xs : Array Value} (S : Src prog w it l xs) {i : Nat} {h h' : Heap} (st : S.on i h) {b : Addr} (e : Heap.ExtBut b h h') (n1 : it ≠ b) (n2 : l ≠ b) : S.on i h' :=
  S.keep st fun c o hc q => e c o (by rcases hc with rfl | rfl <;> assumption) q
theorem zipS_item {z TI TO i1 i2 l1 l2 : Addr} {k1 k2 : Nat} {xs ys : Array Value} {x y a b : Value} {Q : Value → Shared → Prop} (D : ZipApart z TI TO i1 i2 l1 l2) (S1 : Src prog w i1 l1 xs) (S2 : Src prog w i2 l2 ys)
    (hz : IsZip s.heap z TI TO .none) (hTI : IsPair s.heap TI (.ref i1) (.ref i2)) (hTO : IsPair s.heap TO a b) (h1 : S1.on k1 s.heap) (h2 : S2.on k2 s.heap) (hx : xs[k1]? = some x) (hy : ys[k2]? = some y)
    (hQ : ∀ h', IsZip h' z TI TO (rawInt s.heap.objs.size) → IsPair h' TO x y → S1.on (k1 + 1) h' → S2.on (k2 + 1) h' → IsPair h' s.heap.objs.size x y → h'.objs.size = s.heap.objs.size + 1 → ZKeep z TO i1 i2 s.heap h' → Q (.ref s.heap.objs.size) { s with heap := h' }) :
    wpAny (model prog w) A (Builtin.«zip.__next__» ⟨[.ref z], []⟩) (fun fin s' => ∃ v, fin = .done (.ret v) ∧ Q v s') E s := by
  show wpAny _ _ (field (.ref z) 2 >>= _) _ _ _
  refine wpAny_bind (wpAny_field hz rfl (x := .bool false) rfl ?_)
  show wpAny _ _ (field (.ref z) 3 >>= _) _ _ _
  refine wpAny_bind (wpAny_field hz rfl (x := .ref TI) rfl (wpAny_bind (wpAny_seqItems hTI rfl ?_)))
  show wpAny _ _ (Builtin.SmallTypes.ownedTupleIsFree (.ref z) >>= _) _ _ _
  refine wpAny_bind ?_
  unfold Builtin.SmallTypes.ownedTupleIsFree
  refine wpAny_bind (wpAny_field hz rfl (x := .none) rfl (wpAny_pure ?_))
  simp only [if_true]
  refine wpAny_bind (wpAny_rule (wpAny_bind (wpAny_field hz rfl (x := .ref TO) rfl (wpAny_bind (wpAny_setField_rec hz (by simp) fun ha za sa => ?_)))))
  replace za : IsZip ha z TI TO .ellipsis := za
  refine wpAny_bind ?_
  simp only [List.zipIdx_cons, List.zipIdx_nil, List.forIn_cons, List.forIn_nil]
  refine wpAny_bind (wpAny_bind (wpAny_onRaise ?_))
  show wpAny _ _ (Builtin.SmallTypes.nextOf (.ref i1) >>= _) _ _ _
  refine wpAny_bind (S1.item (S1.ext h1 sa.extBut D.i1z D.l1z) hx fun hb ob sb => wpAny_pure ?_)
  have pb : IsPair hb TO a b := sb.extBut _ _ D.TOi1 (sa.extBut _ _ D.TOz hTO)
  refine wpAny_bind (wpAny_seqItems pb rfl (wpAny_bind (wpAny_updateSeq_pair pb fun hc pc sc => ?_)))
  replace pc : IsPair hc TO x b := pc
  refine wpAny_bind (wpAny_letGo (wpAny_pure (wpAny_bind (wpAny_bind (wpAny_onRaise ?_)))))
  show wpAny _ _ (Builtin.SmallTypes.nextOf (.ref i2) >>= _) _ _ _
  refine wpAny_bind (S2.item (S2.ext (S2.ext (S2.ext h2 sa.extBut D.i2z D.l2z) sb.extBut D.i12.symm D.l2i1) sc.extBut D.TOi2.symm D.l2TO) hy fun hd od sd => wpAny_pure ?_)
  have pd : IsPair hd TO x b := sd.extBut _ _ D.TOi2 pc
  refine wpAny_bind (wpAny_seqItems pd rfl (wpAny_bind (wpAny_updateSeq_pair pd fun he pe se => ?_)))
  replace pe : IsPair he TO x y := pe
  refine wpAny_bind (wpAny_letGo (wpAny_pure (wpAny_pure (wpAny_bind (wpAny_seqItems pe rfl (wpAny_bind (wpAny_newTuple ?_)))))))
  have hsz : he.objs.size = s.heap.objs.size := by rw [se.1, sd.1, sc.1, sb.1, sa.1]
  have ze : IsZip he z TI TO .ellipsis := se.extBut _ _ D.TOz.symm (sd.extBut _ _ D.i2z.symm (sc.extBut _ _ D.TOz.symm (sb.extBut _ _ D.i1z.symm za)))
  have ke : ZKeep z TO i1 i2 s.heap he := fun c o c1 c2 c3 c4 e => se.extBut _ _ c2 (sd.extBut _ _ c4 (sc.extBut _ _ c2 (sb.extBut _ _ c3 (sa.extBut _ _ c1 e))))
  have o1 : S1.on (k1 + 1) he := S1.ext (S1.ext (S1.ext ob sc.extBut D.TOi1.symm D.l1TO) sd.extBut D.i12 D.l1i2) se.extBut D.TOi1.symm D.l1TO
  have o2 : S2.on (k2 + 1) he := S2.ext od se.extBut D.TOi2.symm D.l2TO
  show wpAny _ _ (Builtin.SmallTypes.ownedTupleHandOut (.ref z) (.ref he.objs.size) >>= _) _ _ _
  refine wpAny_bind ?_
  unfold Builtin.SmallTypes.ownedTupleHandOut
  have zf : IsZip (he.push { cls := .type "tuple", data := .seq #[x, y] }) z TI TO .ellipsis := Heap.get?_push_of_some _ ze
  refine wpAny_bind (wpAny_setField_rec zf (by simp) fun hg zg sg => ?_)
  replace zg : IsZip hg z TI TO (rawInt he.objs.size) := zg
  refine wpAny_setField_rec zg (by simp) fun hh zh sh => ?_
  replace zh : IsZip hh z TI TO (rawInt he.objs.size) := zh
  have up : ∀ c o, c ≠ z → he.get? c = some o → hh.get? c = some o := fun c o c1 e => sh.extBut _ _ c1 (sg.extBut _ _ c1 (Heap.get?_push_of_some _ e))
  have ph : IsPair hh he.objs.size x y := sh.extBut _ _ (Nat.ne_of_gt (Heap.lt_size ze)) (sg.extBut _ _ (Nat.ne_of_gt (Heap.lt_size ze)) (Heap.get?_push_size _ rfl))
  have size : hh.objs.size = he.objs.size + 1 := by rw [sh.1, sg.1, Heap.size_push]
  rw [hsz] at zh ph size
  refine wpAny_pure ⟨_, rfl, ?_⟩
  show Q (.ref he.objs.size) _
  rw [hsz]
  exact hQ hh zh (up _ _ D.TOz pe) (S1.keep o1 fun c o hc q => up c o (by rcases hc with rfl | rfl; exact D.i1z; exact D.l1z) q) (S2.keep o2 fun c o hc q => up c o (by rcases hc with rfl | rfl; exact D.i2z; exact D.l2z) q) ph size fun c o c1 c2 c3 c4 e => up c o c1 (ke c o c1 c2 c3 c4 e)
theorem zipS_end {z TI TO i1 i2 l1 l2 : Addr} {k1 k2 : Nat} {xs ys : Array Value} {a b : Value} {Q : Fin → Shared → Prop} (hh : A.handled = none) (D : ZipApart z TI TO i1 i2 l1 l2) (S1 : Src prog w i1 l1 xs) (S2 : Src prog w i2 l2 ys)
    (hz : IsZip s.heap z TI TO .none) (hTI : IsPair s.heap TI (.ref i1) (.ref i2)) (hTO : IsPair s.heap TO a b) (h1 : S1.on k1 s.heap) (h2 : S2.on k2 s.heap) (hend : xs[k1]? = none ∨ ys[k2]? = none)
    (hE : ∀ h' e, ZKeep z TO i1 i2 s.heap h' → (∃ o, h'.get? e = some o ∧ o.cls = .type "StopIteration") → E (.ref e) { s with heap := h' }) :
    wpAny (model prog w) A (Builtin.«zip.__next__» ⟨[.ref z], []⟩) Q E s := by
  show wpAny _ _ (field (.ref z) 2 >>= _) _ _ _
  refine wpAny_bind (wpAny_field hz rfl (x := .bool false) rfl ?_)
  show wpAny _ _ (field (.ref z) 3 >>= _) _ _ _
  refine wpAny_bind (wpAny_field hz rfl (x := .ref TI) rfl (wpAny_bind (wpAny_seqItems hTI rfl ?_)))
  show wpAny _ _ (Builtin.SmallTypes.ownedTupleIsFree (.ref z) >>= _) _ _ _
  refine wpAny_bind ?_
  unfold Builtin.SmallTypes.ownedTupleIsFree
  refine wpAny_bind (wpAny_field hz rfl (x := .none) rfl (wpAny_pure ?_))
  simp only [if_true]
  refine wpAny_bind (wpAny_rule (wpAny_bind (wpAny_field hz rfl (x := .ref TO) rfl (wpAny_bind (wpAny_setField_rec hz (by simp) fun ha za sa => ?_)))))
  replace za : IsZip ha z TI TO .ellipsis := za
  refine wpAny_bind ?_
  simp only [List.zipIdx_cons, List.zipIdx_nil, List.forIn_cons, List.forIn_nil]
  refine wpAny_bind (wpAny_bind (wpAny_onRaise ?_))
  show wpAny _ _ (Builtin.SmallTypes.nextOf (.ref i1) >>= _) _ _ _
  have o1 := S1.ext h1 sa.extBut D.i1z D.l1z
  cases hx : xs[k1]? with
  | none =>
    refine wpAny_bind (S1.stop hh o1 hx fun hb e sb q => ?_)
    obtain ⟨oe, hoe, hce⟩ := q
    have zb : IsZip hb z TI TO .ellipsis := sb _ _ D.i1z.symm za
    have hez : e ≠ z := fun x => by subst x; rw [zb] at hoe; cases hoe; simp at hce
    refine wpAny_setField_rec zb (by simp) fun hc _ sc => hE hc e (fun c o c1 _ c3 _ x => sc.extBut _ _ c1 (sb _ _ c3 (sa.extBut _ _ c1 x))) ⟨oe, sc.extBut _ _ hez hoe, hce⟩
  | some x =>
    have hy : ys[k2]? = none := by rcases hend with h | h; rw [hx] at h; cases h; exact h
    refine wpAny_bind (S1.item o1 hx fun hb ob sb => wpAny_pure ?_)
    have pb : IsPair hb TO a b := sb.extBut _ _ D.TOi1 (sa.extBut _ _ D.TOz hTO)
    refine wpAny_bind (wpAny_seqItems pb rfl (wpAny_bind (wpAny_updateSeq_pair pb fun hc pc sc => ?_)))
    refine wpAny_bind (wpAny_letGo (wpAny_pure (wpAny_bind (wpAny_bind (wpAny_onRaise ?_)))))
    show wpAny _ _ (Builtin.SmallTypes.nextOf (.ref i2) >>= _) _ _ _
    refine wpAny_bind (S2.stop hh (S2.ext (S2.ext (S2.ext h2 sa.extBut D.i2z D.l2z) sb.extBut D.i12.symm D.l2i1) sc.extBut D.TOi2.symm D.l2TO) hy fun hd e sd q => ?_)
    obtain ⟨oe, hoe, hce⟩ := q
    have zd : IsZip hd z TI TO .ellipsis := sd _ _ D.i2z.symm (sc.extBut _ _ D.TOz.symm (sb.extBut _ _ D.i1z.symm za))
    have hez : e ≠ z := fun x => by subst x; rw [zd] at hoe; cases hoe; simp at hce
    refine wpAny_setField_rec zd (by simp) fun hf _ sf => hE hf e (fun c o c1 c2 c3 c4 x => sf.extBut _ _ c1 (sd _ _ c4 (sc.extBut _ _ c2 (sb.extBut _ _ c3 (sa.extBut _ _ c1 x))))) ⟨oe, sf.extBut _ _ hez hoe, hce⟩
theorem pyNext_zipS {z TI TO i1 i2 l1 l2 : Addr} {k1 k2 : Nat} {xs ys : Array Value} {x y a b : Value} {Q : Option Value → Shared → Prop} (D : ZipApart z TI TO i1 i2 l1 l2) (S1 : Src prog w i1 l1 xs) (S2 : Src prog w i2 l2 ys)
    (hz : IsZip s.heap z TI TO .none) (hTI : IsPair s.heap TI (.ref i1) (.ref i2)) (hTO : IsPair s.heap TO a b) (h1 : S1.on k1 s.heap) (h2 : S2.on k2 s.heap) (hx : xs[k1]? = some x) (hy : ys[k2]? = some y)
    (hQ : ∀ h', IsZip h' z TI TO (rawInt s.heap.objs.size) → IsPair h' TO x y → S1.on (k1 + 1) h' → S2.on (k2 + 1) h' → IsPair h' s.heap.objs.size x y → h'.objs.size = s.heap.objs.size + 1 → ZKeep z TO i1 i2 s.heap h' → Q (some (.ref s.heap.objs.size)) { s with heap := h' }) :
    wpAny (model prog w) A (pyNext (.ref z)) Q E s := by
  have hT : s.TypeIs (.ref z) "zip" := ⟨_, hz, rfl⟩
  unfold pyNext
  exact wpAny_bind (wpAny_attempt (wpAny_callSpecial?_slot (name := Str.ofString "__next__") hT F.slot_zip_next
    (wpAny_call_entry F.slot_zip_next hT F.entry_zip_next (zipS_item D S1 S2 hz hTI hTO h1 h2 hx hy fun h' a1 a2 a3 a4 a5 a6 a7 => wpAny_pure (hQ h' a1 a2 a3 a4 a5 a6 a7)) (F.args_zip_next_1 _))))
theorem pyNext_zipSE {z TI TO i1 i2 l1 l2 : Addr} {k1 k2 : Nat} {xs ys : Array Value} {a b : Value} {Q : Option Value → Shared → Prop} (hh : A.handled = none) (D : ZipApart z TI TO i1 i2 l1 l2) (S1 : Src prog w i1 l1 xs) (S2 : Src prog w i2 l2 ys)
    (hz : IsZip s.heap z TI TO .none) (hTI : IsPair s.heap TI (.ref i1) (.ref i2)) (hTO : IsPair s.heap TO a b) (h1 : S1.on k1 s.heap) (h2 : S2.on k2 s.heap) (hend : xs[k1]? = none ∨ ys[k2]? = none)
    (hQ : ∀ h', ZKeep z TO i1 i2 s.heap h' → Q none { s with heap := h' }) : wpAny (model prog w) A (pyNext (.ref z)) Q E s := by
  have hT : s.TypeIs (.ref z) "zip" := ⟨_, hz, rfl⟩
  unfold pyNext
  refine wpAny_bind (wpAny_attempt (wpAny_callSpecial?_slot (name := Str.ofString "__next__") hT F.slot_zip_next
    (wpAny_call_entry F.slot_zip_next hT F.entry_zip_next (zipS_end hh D S1 S2 hz hTI hTO h1 h2 hend fun h' e hk he => ?_) (F.args_zip_next_1 _))))
  obtain ⟨o, ho, hc⟩ := he
  exact wpAny_bind (wpAny_isInstance (T := "StopIteration") (b := true) ⟨o, ho, hc⟩ isSubtype_stop (wpAny_pure (hQ _ hk)))
abbrev zA (h : Heap) (l1 : Addr) : Heap := h.push { cls := .type "tuple_iterator", data := .fields #[.ref l1, .int 0 0] }
abbrev zB (h : Heap) (l1 l2 : Addr) : Heap := (zA h l1).push { cls := .type "list_iterator", data := .fields #[.ref l2, .int 0 0] }
abbrev zC (h : Heap) (l1 l2 : Addr) : Heap := (zB h l1 l2).push { cls := .type "tuple", data := .seq #[.ref h.objs.size, .ref (zA h l1).objs.size] }
abbrev zD (h : Heap) (l1 l2 : Addr) : Heap := (zC h l1 l2).push { cls := .type "tuple", data := .seq #[.none, .none] }
abbrev zE (h : Heap) (l1 l2 : Addr) : Heap := (zD h l1 l2).push { cls := .type "zip", data := .fields #[.none, .bool false, .bool false, .ref (zB h l1 l2).objs.size, .ref (zC h l1 l2).objs.size] }
end
theorem meets_zTL (l1 l2 : Addr) (xs ys : Array Value) :
    Meets (Builtin.«zip.__new__» ⟨[.type "zip", .ref l1, .ref l2], []⟩) (fun _ R s => s.heap.IsTuple l1 xs ∧ s.heap.IsList l2 ys ∧
      R (.ok (.ret (.ref (zD s.heap l1 l2).objs.size))) { s with heap := zE s.heap l1 l2 }) :=
  .of_wp fun prog w A R s h => by
    obtain ⟨hp, g, d, tk, os⟩ := s; obtain ⟨hl1, hl2, h⟩ := h
    have hsub := sub_zip
    have e1 : Heap.IsTuple (Shared.heap ⟨hp, g, d, tk, os⟩) l1 xs := hl1
    have e2 : Heap.IsList (Shared.heap ⟨hp.push { cls := .type "tuple_iterator", data := .fields #[.ref l1, .int 0 0] }, g, d, tk, os⟩) l2 ys := Heap.IsList.push hl2 _
    wp_walk using wpAny_pyIter_tuple e1, wpAny_pyIter_list e2
    exact ⟨_, rfl, h⟩
section
variable {prog : Program} {w : World} {A : Around} {E : Value → Shared → Prop} {s : Shared}
theorem call_zTL {l1 l2 : Addr} {xs ys : Array Value} {Q : Value → Shared → Prop} (hl1 : s.heap.IsTuple l1 xs) (hl2 : s.heap.IsList l2 ys)
    (h : ∀ h', IsZip h' (s.heap.objs.size + 4) (s.heap.objs.size + 2) (s.heap.objs.size + 3) .none → IsPair h' (s.heap.objs.size + 2) (.ref s.heap.objs.size) (.ref (s.heap.objs.size + 1)) →
      IsPair h' (s.heap.objs.size + 3) .none .none → h'.IsTupleIter s.heap.objs.size l1 0 → h'.IsListIter (s.heap.objs.size + 1) l2 0 →
      (∀ c o, s.heap.get? c = some o → h'.get? c = some o) → Q (.ref (s.heap.objs.size + 4)) { s with heap := h' }) :
    wpAny (model prog w) A (call (.type "zip") [.ref l1, .ref l2]) Q E s := by
  refine callType_new F.called_zip (by decide) (F.typeCall_zip_2 _ _) (F.newCall_zip_2 _ _) (fun obj => F.args_object_init_3 obj _ _) F.entry_zip_new (meets_zTL l1 l2 xs ys) ⟨hl1, hl2, ?_⟩
  have z1 : (zA s.heap l1).objs.size = s.heap.objs.size + 1 := Heap.size_push ..
  have z2 : (zB s.heap l1 l2).objs.size = s.heap.objs.size + 2 := by rw [Heap.size_push, z1]
  have z3 : (zC s.heap l1 l2).objs.size = s.heap.objs.size + 3 := by rw [Heap.size_push, z2]
  have z4 : (zD s.heap l1 l2).objs.size = s.heap.objs.size + 4 := by rw [Heap.size_push, z3]
  have g5 : (zE s.heap l1 l2).get? (zD s.heap l1 l2).objs.size = some _ := Heap.get?_push_size _ rfl
  have g4 : (zE s.heap l1 l2).get? (zC s.heap l1 l2).objs.size = some _ := Heap.get?_push_of_some _ (Heap.get?_push_size _ rfl)
  have g3 : (zE s.heap l1 l2).get? (zB s.heap l1 l2).objs.size = some _ := Heap.get?_push_of_some _ (Heap.get?_push_of_some _ (Heap.get?_push_size _ rfl))
  have g2 : (zE s.heap l1 l2).get? (zA s.heap l1).objs.size = some _ := Heap.get?_push_of_some _ (Heap.get?_push_of_some _ (Heap.get?_push_of_some _ (Heap.get?_push_size _ rfl)))
  have g1 : (zE s.heap l1 l2).get? s.heap.objs.size = some _ := Heap.get?_push_of_some _ (Heap.get?_push_of_some _ (Heap.get?_push_of_some _ (Heap.get?_push_of_some _ (Heap.get?_push_size _ rfl))))
  show _ ∧ _
  rw [z2, z3, z4] at g5
  rw [z1, z2] at g3
  rw [z3] at g4
  rw [z1] at g2
  rw [z4]
  exact ⟨⟨_, g5, rfl⟩, h _ g5 g3 g4 ⟨_, g1, rfl, rfl⟩ ⟨_, g2, rfl, rfl⟩ fun c o x =>
    Heap.get?_push_of_some _ (Heap.get?_push_of_some _ (Heap.get?_push_of_some _ (Heap.get?_push_of_some _ (Heap.get?_push_of_some _ x))))⟩
end
def ItzM (K : PySem.W.Frag) (a b : Addr) : It :=
  ⟨fun i H => ∃ (xs ys : List V) (x y : V), SqT K H a xs ∧ SqL K H b ys ∧ xs[i]? = some x ∧ ys[i]? = some y,
    fun i H v H' => ∃ T x y, v = .ref T ∧ H T = none ∧ H' = upd H T (.tup [x, y]) ∧ (∀ xs, SqT K H a xs → xs[i]? = some x) ∧ ∀ ys, SqL K H b ys → ys[i]? = some y,
    fun i H => ∃ xs ys : List V, SqT K H a xs ∧ SqL K H b ys ∧ (xs.length ≤ i ∨ ys.length ≤ i)⟩
theorem five {P : Addr → Prop} {z TI TO i1 i2 : Addr} (h1 : P z) (h2 : P TI) (h3 : P TO) (h4 : P i1) (h5 : P i2) : ∀ c ∈ [z, TI, TO, i1, i2], P c := by
  intro c hc
  simp only [List.mem_cons, List.not_mem_nil, or_false] at hc
  rcases hc with rfl | rfl | rfl | rfl | rfl <;> assumption
theorem out5 {z TI TO i1 i2 : Addr} {h h' : Heap} (k : ZKeep z TO i1 i2 h h') {c : Addr} {o : Obj} (hb : c ∉ [z, TI, TO, i1, i2]) (q : h.get? c = some o) : h'.get? c = some o :=
  k c o (fun e => hb (by simp [e])) (fun e => hb (by simp [e])) (fun e => hb (by simp [e])) (fun e => hb (by simp [e])) q
theorem turn_zM {P : Program} {w : World} {K : PySem.W.Frag} {elts : List Expr} {kk : Nat} {tpos : Pos} {a b z TI TO i1 i2 : Addr} (D : ZipApart z TI TO i1 i2 a b) :
    Turn P w K (.Tuple elts kk tpos) (ItzM K a b) [z, TI, TO, i1, i2] z (fun i h => IsZip h z TI TO .none ∧ IsPair h TI (.ref i1) (.ref i2) ∧ (∃ x y, IsPair h TO x y) ∧ h.IsTupleIter i1 a i ∧ h.IsListIter i2 b i) where
  mem := by simp
  obj := fun i h st => by
    obtain ⟨hz, hTI, ⟨x, y, hTO⟩, ⟨o1, e1, _, d1⟩, ⟨o2, e2, _, d2⟩⟩ := st
    exact five ⟨_, hz, fun v q => nomatch q⟩ ⟨_, hTI, fun v q => nomatch q⟩ ⟨_, hTO, fun v q => nomatch q⟩ ⟨o1, e1, fun v q => by rw [d1] at q; cases q⟩ ⟨o2, e2, fun v q => by rw [d2] at q; cases q⟩
  keep := fun i h h' st k => by
    obtain ⟨hz, hTI, ⟨x, y, hTO⟩, h1, h2⟩ := st
    exact ⟨k z (by simp) _ hz, k TI (by simp) _ hTI, ⟨x, y, k TO (by simp) _ hTO⟩, h1.at fun o q => k i1 (by simp) o q, h2.at fun o q => k i2 (by simp) o q⟩
  item := by
    intro X hP hw hK hc i pins s σ H E I hf st hg
    subst hP hw hK
    obtain ⟨hz, hTI, ⟨x0, y0, hTO⟩, h1, h2⟩ := st
    obtain ⟨xs, ys, x, y, hqx, hqy, hx, hy⟩ := hg
    obtain ⟨its, rv, p, _⟩ := I.tuple hqx
    obtain ⟨its2, rv2, p2, _⟩ := I.list hqy
    obtain ⟨u, hu, ru⟩ := rv.get hx
    obtain ⟨u2, hu2, ru2⟩ := rv2.get hy
    have hzl : z < s.heap.objs.size := Heap.lt_size hz
    refine pyNext_zipS D (srcT X.prog X.w its.toArray D.l1i1) (srcL X.prog X.w its2.toArray D.l2i2) hz hTI hTO ⟨h1, p⟩ ⟨h2, p2.isList⟩ (x := u) (y := u2) (by simpa using hu) (by simpa using hu2) fun h' z' TO' h1' h2' hT hsz hk => ?_
    refine ⟨_, rfl, wpAny_letOwnedTupleGo_zip (s := { s with heap := h' }) z' fun h'' z'' sb => ?_⟩
    have sx : ∀ {c o}, c ≠ z → h'.get? c = some o → h''.get? c = some o := fun e q => (sb.2 _ e).trans q
    have hT2 := sx (Nat.ne_of_gt hzl) hT
    have new : ObjOk X.prog X.w (upd H s.heap.objs.size (.tup [x, y])) h'' s.heap.objs.size (.tup [x, y]) :=
      ⟨by show 2 ≤ sizeLine; decide, [u, u2], .cons ru (.cons ru2 .nil), ⟨_, hT2, rfl, _, rfl⟩⟩
    have I1 : Inv X pins σ (upd H s.heap.objs.size (.tup [x, y])) { s with heap := h'' } :=
      I.turnedNew (t' := s.toks) (ch := [z, TI, TO, i1, i2]) (fun c o hb q => sx (fun e => hb (by simp [e])) (out5 hk hb q)) hf (Nat.le_refl _) new
    refine ⟨.ref s.heap.objs.size, _, I1, rfl, ⟨_, x, y, rfl, I.hok.fresh (Nat.le_refl _), rfl, fun l hl => by rw [I.tuple_inj hl hqx]; exact hx, fun l hl => by rw [I.list_inj hl hqy]; exact hy⟩,
      ⟨z'', sx D.TIz (hk _ _ D.TIz D.TITO D.TIi1 D.TIi2 hTI), ⟨u, u2, sx D.TOz TO'⟩, h1'.1.at fun o q => sx D.i1z q, h2'.1.at fun o q => sx D.i2z q⟩, fun c hcm => ?_⟩
    have lt : ∀ c ∈ [z, TI, TO, i1, i2], c < s.heap.objs.size := five hzl (Heap.lt_size hTI) (Heap.lt_size hTO) (by obtain ⟨_, e1, _⟩ := h1; exact Heap.lt_size e1) (by obtain ⟨_, e1, _⟩ := h2; exact Heap.lt_size e1)
    rw [upd_ne (Nat.ne_of_lt (lt c hcm))]
    exact (hf c hcm).1
  done := by
    intro X hP hw hK hc i pins s σ H E I hf st hg
    subst hP hw hK
    obtain ⟨hz, hTI, ⟨x0, y0, hTO⟩, h1, h2⟩ := st
    obtain ⟨xs, ys, hqx, hqy, hend⟩ := hg
    obtain ⟨its, rv, p, _⟩ := I.tuple hqx
    obtain ⟨its2, rv2, p2, _⟩ := I.list hqy
    have l1 := rv.length
    have l2 := rv2.length
    have he : its.toArray[i]? = none ∨ its2.toArray[i]? = none := hend.imp (fun q => by simp; omega) (fun q => by simp; omega)
    exact pyNext_zipSE (I.ok.hd hc) D (srcT X.prog X.w its.toArray D.l1i1) (srcL X.prog X.w its2.toArray D.l2i2) hz hTI hTO ⟨h1, p⟩ ⟨h2, p2.isList⟩ he fun h' hk =>
      ⟨rfl, I.turnedL (t' := s.toks) (ch := [z, TI, TO, i1, i2]) (fun c o hb q => out5 hk hb q) hf⟩
  self := fun A i s Q E st h => wpAny_pyIter_zip st.1 h
def iZipM (K : PySem.W.Frag) (ta : TA) : TI := fun σ H R => ta σ H fun vs H1 => ∃ a b xs ys, vs = [.ref a, .ref b] ∧ SqT K H1 a xs ∧ SqL K H1 b ys ∧ R (ItzM K a b) H1
theorem pi_zM {X : Cx} {e e2 : Expr} {ta : TA} {p pos tpos : Pos} {elts : List Expr} {kk : Nat} (hg : Gl X "zip") (hm : X.mg "zip" = none) (ha : PA X [e, e2] ta)
    (hs : starEach [e, e2] X.env = (false, eval e X.env) :: starEach [e2] X.env) (hpl : (backTo pos (starEach [e2] X.env)).any (·.1) = false) :
    PI X (.Tuple elts kk tpos) (.Call (.Name "zip" p) [e, e2] [] pos) (iZipM X.K ta) := by
  refine ⟨fun pins s σ H R I h => ?_⟩
  refine PyProof.Rows.Call_ (ld_blt I hg hm PyProof.Rows.boot_zip (PyProof.Rows.callWith_type1 (thn (ha.run pos pins s σ H _ I h) fun us s1 ⟨vs, H1, I1, r1, q1⟩ => ?_) hs hpl))
  obtain ⟨a, b, xs, ys, ex, hqx, hqy, q⟩ := q1
  subst ex
  cases r1 with
  | cons r rr =>
    cases rr with
    | cons r' rr =>
      cases rr
      cases r
      cases r'
      obtain ⟨its, rv, p1, _⟩ := I1.tuple hqx
      obtain ⟨its2, rv2, p2, _⟩ := I1.list hqy
      obtain ⟨o1, ho1, _⟩ := id p1
      refine call_zTL (show s1.heap.IsTuple a its.toArray from p1) p2.isList fun h' hz hTI hTO h1 h2 hk => wpAny_pyIter_zip hz ?_
      have I2 : Inv X pins σ H1 { s1 with heap := h' } := I1.kept (t' := s1.toks) hk
      have fr : ∀ c, s1.heap.objs.size ≤ c → FpOk X pins H1 c := fun c hle => I1.fpOk hle (I1.hok.fresh hle)
      exact ⟨s1.heap.objs.size + 4, [s1.heap.objs.size + 4, s1.heap.objs.size + 2, s1.heap.objs.size + 3, s1.heap.objs.size, s1.heap.objs.size + 1], _, _, H1, rfl, I2, turn_zM (PySem.W.ktu_apart s1.heap.objs.size a b (Heap.lt_size ho1) p2.lt), ⟨hz, hTI, ⟨_, _, hTO⟩, h1, h2⟩,
        five (fr _ (by omega)) (fr _ (by omega)) (fr _ (by omega)) (fr _ (by omega)) (fr _ (by omega)), q⟩
section
variable {ca : Nat → Addr} {φ φ' φ0 : List Addr} {G G' G0 H : Hp} {O T : Cs} {X : Cx} {K : PySem.W.Frag} {C : Cn} {σ : L2.St} {ρ : Rho} {pos p p2 tpos pos2 : Pos} {a b e tg : Expr} {ea eb ec : CE}
theorem itzM_ok {x y : U} {us ws : List U} {T0 : Cs} {a b : Addr} (r : RpU G0 φ0 (.ref a) x) (e : seqT x = some us) (r2 : RpU G0 φ0 (.ref b) y) (e2 : seqL O T0 y = some ws) (n2 : watch y = none) :
    JOk ca (ItzM K a b) ⟨(us.zip ws).map fun p => mkT [p.1, p.2], none, T0⟩ φ0 G0 O := by
  intro φ G H' T' f s hw
  obtain ⟨a', vs, ea, h1, h2⟩ := seqT_ok s (f.u r) e
  cases ea
  have h1 : SqT K H' a vs := .inl (.inl h1)
  obtain ⟨b', zs, eb, k1, k2⟩ := list_at r2 e2 f s (by rw [n2] <;> rfl)
  cases eb
  have k1 : SqL K H' b zs := .inl k1
  refine ⟨fun i u hu => ?_, ⟨vs, zs, h1, k1, ?_⟩⟩
  · simp only [List.getElem?_map, Option.map_eq_some_iff] at hu
    obtain ⟨⟨u1, u2⟩, hz, rfl⟩ := hu
    obtain ⟨g1, g2⟩ := List.getElem?_zip_eq_some.mp hz
    obtain ⟨v1, q1, q2⟩ := h2.get g1
    obtain ⟨v2, q3, q4⟩ := k2.get g2
    refine ⟨⟨vs, zs, v1, v2, h1, k1, q1, q3⟩, fun x' H2 hy => ?_⟩
    obtain ⟨Tt, x1, x2, rfl, nT, rfl, hy1, hy2⟩ := hy
    have z1 := hy1 vs h1
    have z2 := hy2 zs k1
    rw [q1] at z1
    rw [q3] at z2
    cases z1
    cases z2
    exact new_tup s nT (.cons q2 (.cons q4 .nil))
  · simp only [List.length_map, List.length_zip]
    rw [h2.length, k2.length]
    omega
@[simp] theorem denI_zipTL (a b : CE) : denI C O ρ (.zipTL a b) T = (den C O ρ a T).bind fun x T => (den C O ρ b T).bind fun y T => match seqT x, seqL O T y, watch y with
    | some us, some ws, none => .ok ⟨(us.zip ws).map fun p => mkT [p.1, p.2], none, T⟩ T
    | _, _, _ => .fail := by rw [denI] <;> rfl
theorem pi_zTL {elts : List Expr} {kk : Nat} (hg : Gl X "zip") (hm : X.mg "zip" = none) (ha : PA X [a, b] (RA ca C (.cons ea (.cons eb .nil)))) (hs : starEach [a, b] X.env = (false, eval a X.env) :: starEach [b] X.env) (hpl : (backTo pos (starEach [b] X.env)).any (·.1) = false) :
    PI X (.Tuple elts kk tpos) (.Call (.Name "zip" p) [a, b] [] pos) (RI ca C (.zipTL ea eb)) :=
  (pi_zM hg hm ha hs hpl).imp (by
    intro σ H R h
    obtain ⟨φ, G, O, ρ, T, t, h⟩ := ri_two (ea := ea) (eb := eb) (f := fun O x y T => match seqT x, seqL O T y, watch y with
      | some us, some ws, none => .ok ⟨(us.zip ws).map fun p => mkT [p.1, p.2], none, T⟩ T
      | _, _, _ => .fail) (fun O ρ T => by rw [denI] <;> rfl) h
    refine ⟨φ, G, O, ρ, T, t, Pc.imp h ?_⟩
    rintro vs H1 ⟨φ1, G1, T1, v, w, u, z, rfl, s, r, r2, h⟩
    split at h
    · rename_i q1 q2 q3
      obtain ⟨a, ys, rfl, hy, ry⟩ := seqT_ok s r q1
      obtain ⟨b, zs, rfl, hz, rz⟩ := seqL_ok s r2 q2
      exact ⟨a, b, ys, zs, rfl, .inl (.inl hy), .inl hz, h _ φ1 G1 H1 Fut.refl s (itzM_ok r q1 r2 q2 q3)⟩
    · exact h.elim)
section
variable {N : List Str} {sc : Scope} {vm tm : List Bool} {n : Nat}
theorem i_zTL {elts : List Expr} {kk : Nat} (g : Cg X N sc vm tm n) (hm : X.mg "zip" = none) (ha : PE X a (RE ca C ea)) (hb : PE X b (RE ca C eb)) (hg : sc.names.lookup ("zip" : Str) = some .globalImplicit := by rfl)
    (hs : starEach [a, b] X.env = (false, eval a X.env) :: starEach [b] X.env := by rfl) (hs2 : starEach [b] X.env = [(false, eval b X.env)] := by rfl) (hpl : (backTo pos (starEach [b] X.env)).any (·.1) = false := by rfl) : PI X (.Tuple elts kk tpos) (.Call (.Name "zip" p) [a, b] [] pos) (RI ca C (.zipTL ea eb)) :=
  pi_zTL (gl_of g hg) hm (a_cons ha (a_cons hb a_nil hs2) hs) hs hpl
theorem y_lrng1 (g : Cg X N sc vm tm n) {l : Bool} (hL : X.mg "list" = none) (hR : X.mg "range" = none) (ha : PE X a (RE ca C ea)) (gl : sc.names.lookup ("list" : Str) = some .globalImplicit := by rfl) (gr : sc.names.lookup ("range" : Str) = some .globalImplicit := by rfl)
    (na : starEach [a] X.env = (false, eval a X.env) :: starEach [] X.env := by rfl)
    (na2 : starEach [.Call (.Name "range" p2) [a] [] pos2] X.env = (false, eval (.Call (.Name "range" p2) [a] [] pos2) X.env) :: starEach [] X.env := by rfl) :
    PE X (.Call (.Name "list" p) [.Call (.Name "range" p2) [a] [] pos2] [] pos) (RE ca C (.comp l (.v 0) (.nm 0) (.rng1 ea) (.c (.bool true)) [])) := by
  refine (pe_listRg g.calm (gl_of g gl) hL (prg_1 (gl_of g gr) hR ha na) na2).imp ?_
  rintro σ H Q ⟨φ, G, O, ρ, T, t, h⟩
  have e0 : den C O ρ (.comp l (.v 0) (.nm 0) (.rng1 ea) (.c (.bool true)) []) T = (denI C O ρ (.rng1 ea) T).bind fun its T0 => (compC (eltI C O ρ) (fun T' => sameW O its.t T' its.w) T0.length its.us (T0 ++ [.lstU []])).bind fun _ T' => compE O l T0 T' := by
    rw [den]
    rfl
  rw [e0, denI_rng1] at h
  refine ⟨φ, G, O, ρ, T, t, ?_⟩
  cases e1 : den C O ρ ea T with
  | exc => rw [e1] at h; exact h.elim
  | fail => rw [e1] at h; exact h.elim
  | ok x T2 =>
    rw [e1, R.bind_ok] at h
    intro v φ1 G1 H1 f1 s1 r1
    have h' : ∃ j, x = .d (.int j) := by
      revert h
      cases x with
      | d dx =>
        cases dx with
        | int i => exact fun _ => ⟨i, rfl⟩
        | _ => exact fun h => h.elim
      | _ => exact fun h => h.elim
    obtain ⟨j, rfl⟩ := h'
    have hv : v = .int j := by cases r1 with | d r => cases r; rfl
    refine ⟨j, hv, ?_⟩
    simp only at h
    by_cases q : rngOk 0 j = true
    · rw [if_pos q, R.bind_ok] at h
      simp only at h
      have hsz := rngOk_ok q
      have e9 : j.toNat = (j - 0).toNat := by rw [Int.sub_zero]
      rcases rngC_ok C O T2 ρ l (rngU 0 j.toNat 1) _ (rngU_map 0 _) rfl with ⟨k1, k2⟩ | k2
      · rw [k2] at h
        rw [rngU_len] at k1
        refine ⟨⟨hsz.1.1, hsz.1.2, hsz.2.1, hsz.2.2, by omega⟩, fun q2 hq2 => ?_⟩
        refine mkL_ok (h.later f1) s1 ?_ hq2
        rw [rngU_map, e9]
        unfold rgV
        generalize List.range (j - 0).toNat = ks
        induction ks with
        | nil => exact .nil
        | cons k ks ih => exact .cons (.d (.int _)) ih
      · rw [k2] at h
        exact h.elim
    · rw [if_neg q] at h
      exact h.elim
end
end
end Y

set_option Elab.async false
set_option linter.all false
set_option maxRecDepth 100000
set_option maxHeartbeats 4000000
namespace Y
open PySem
namespace S
theorem get_set_ne {O T : Cs} {i j : Nat} {c : Cell} (hj : O.length ≤ j) (h : i ≠ j) : getC O (T.set (j - O.length) c) i = getC O T i := by
  rw [getC_eq, getC_eq]
  by_cases hi : i < O.length
  · rw [List.getElem?_append_left hi, List.getElem?_append_left hi]
  · rw [List.getElem?_append_right (by omega), List.getElem?_append_right (by omega), List.getElem?_set_ne (by omega)]
theorem own_lt {O T : Cs} {r : Nat} {c : Cell} (h : getC O T r = some c) : r < O.length + T.length := by
  rw [getC_eq] at h
  have := (List.getElem?_eq_some_iff.mp h).1
  simpa using this
theorem wp_mono2' {r : F} {nx bk ct : Rho → Cs → Prop} {rt : U → Cs → Prop} (h : Wp r (fun _ _ => False) bk ct rt) : Wp r nx bk ct rt := by
  cases r with
  | nx => exact h.elim
  | rt u T => exact h
  | bk => exact h
  | ct => exact h
  | exc => exact h
  | fail => exact h
theorem x2 (a b : D) : L2.atI [a, b] 0 = some a ∧ L2.atI [a, b] 1 = some b := ⟨rfl, rfl⟩
theorem x3 (a b c : D) : L2.atI [a, b, c] 0 = some a ∧ L2.atI [a, b, c] 1 = some b ∧ L2.atI [a, b, c] 2 = some c := ⟨rfl, rfl, rfl⟩
theorem x4 (a b c d : D) : L2.atI [a, b, c, d] 0 = some a ∧ L2.atI [a, b, c, d] 1 = some b ∧ L2.atI [a, b, c, d] 2 = some c ∧ L2.atI [a, b, c, d] 3 = some d := ⟨rfl, rfl, rfl, rfl⟩
theorem x5 (a b c d e : D) : L2.atI [a, b, c, d, e] 0 = some a ∧ L2.atI [a, b, c, d, e] 1 = some b ∧ L2.atI [a, b, c, d, e] 2 = some c ∧ L2.atI [a, b, c, d, e] 3 = some d ∧ L2.atI [a, b, c, d, e] 4 = some e := ⟨rfl, rfl, rfl, rfl, rfl⟩
section
variable {C : Cn} {O T T' : Cs} {ρ : Rho} {nx bk ct : Rho → Cs → Prop} {rt : U → Cs → Prop} {b : CB} {u : U}
theorem st_asg {k : Nat} {e : CE} (he : den C O ρ e T = .ok u T') (h : Wp (denB C O b (ρ.set k (some u)) T') nx bk ct rt) : Wp (denB C O (.cons (.asg (.nm k) e) b) ρ T) nx bk ct rt := by
  rw [denB_nx (ρ' := ρ.set k (some u)) (T' := T') (by rw [denS_asg, he, F.of_ok, asgT_nm])]
  exact h
theorem st_asgT {g : Tg} {e : CE} {ρ' : Rho} (he : den C O ρ e T = .ok u T') (hg : asgT O T' g u ρ = some ρ') (h : Wp (denB C O b ρ' T') nx bk ct rt) : Wp (denB C O (.cons (.asg g e) b) ρ T) nx bk ct rt := by
  rw [denB_nx (ρ' := ρ') (T' := T') (by rw [denS_asg, he, F.of_ok, hg])]
  exact h
theorem st_ex {e : CE} (he : den C O ρ e T = .ok u T') (h : Wp (denB C O b ρ T') nx bk ct rt) : Wp (denB C O (.cons (.ex e) b) ρ T) nx bk ct rt := by
  rw [denB_nx (ρ' := ρ) (T' := T') (by rw [denS_ex, he, F.of_ok])]
  exact h
theorem st_ret {e : CE} (he : den C O ρ e T = .ok u T') (h : rt u T') : Wp (denB C O (.cons (.ret e) b) ρ T) nx bk ct rt := by
  rw [denB_rt (u := u) (T' := T') (by rw [denS_ret, he, F.of_ok])]
  exact h
theorem st_nx {s : CS} {ρ' : Rho} (he : denS C O s ρ T = .nx ρ' T') (h : Wp (denB C O b ρ' T') nx bk ct rt) : Wp (denB C O (.cons s b) ρ T) nx bk ct rt := by
  rw [denB_nx he]
  exact h
theorem st_ite {t : CE} {a c : CB} (v : Bool) (he : den C O ρ t T = .ok (.d (.bool v)) T') (h : Wp (denB C O (if v = true then a else c) ρ T') (fun ρ T => Wp (denB C O b ρ T) nx bk ct rt) bk ct rt) : Wp (denB C O (.cons (.ite t a c) b) ρ T) nx bk ct rt := by
  rw [wp_cons, denS_ite, he, F.of_ok]
  cases v with
  | true => exact h
  | false => exact h
theorem st_nil (h : nx ρ T) : Wp (denB C O .nil ρ T) nx bk ct rt := by
  rw [denB_nil]
  exact h
theorem st_for {g : Tg} {it : IT} {c : CB} (its : Its) (T0 : Cs) (I : Nat → Rho → Cs → Prop) (e : denI C O ρ it T = .ok its T0) (h0 : I 0 ρ T0) (hw : ∀ i ρ T, I i ρ T → sameW O its.t T its.w = true)
    (h : ∀ i u, its.us[i]? = some u → ∀ ρ T, I i ρ T → ∃ ρ1, asgT O T g u ρ = some ρ1 ∧ Wp (denB C O c ρ1 T) (I (i + 1)) (fun ρ T => Wp (denB C O b ρ T) nx bk ct rt) (I (i + 1)) rt) (hx : ∀ ρ T, I its.us.length ρ T → Wp (denB C O b ρ T) nx bk ct rt) : Wp (denB C O (.cons (.for_ g it c) b) ρ T) nx bk ct rt := by
  rw [wp_cons]
  exact wp_for its T0 I e h0 hw h hx
end
theorem rngOk_small {i j : Int} (h : 0 ≤ i ∧ i ≤ 1000000) (h2 : -1 ≤ j ∧ j ≤ 1000000) : rngOk i j = true := by
  unfold rngOk
  simp
  omega
theorem rng1_n {C : Cn} {O T : Cs} {ρ : Rho} {a : CE} {n : Nat} (he : den C O ρ a T = .ok (.d (.int n)) T) (h : n ≤ 1000000) : denI C O ρ (.rng1 a) T = .ok ⟨rngU 0 n 1, none, T⟩ T := by
  rw [denI_rng1, he, R.bind_ok]
  simp only
  rw [if_pos (rngOk_small (by omega) (by omega))]
  simp
theorem rng2_n {C : Cn} {O T : Cs} {ρ : Rho} {a b : CE} {i j : Int} (ha : den C O ρ a T = .ok (.d (.int i)) T) (hb : den C O ρ b T = .ok (.d (.int j)) T) (h : 0 ≤ i ∧ i ≤ 1000000) (h2 : -1 ≤ j ∧ j ≤ 1000000) : denI C O ρ (.rng2 a b) T = .ok ⟨rngU i (j - i).toNat 1, none, T⟩ T := by
  rw [denI_rng2, ha, R.bind_ok, hb, R.bind_ok]
  simp only
  rw [if_pos (rngOk_small h h2)]

/-- a value, or a list in a cell of one's own -/
def Gd (O : Cs) (d : D) (u : U) (T' : Cs) : Prop := u = .d d ∨ ∃ i ds, u = .ref i ∧ O.length ≤ i ∧ getC O T' i = some (.lst ds) ∧ d = .list ds
theorem Gd.d {O T : Cs} (d : D) : Gd O d (.d d) T := .inl rfl
theorem Gd.l {O T : Cs} {i : Nat} {ds : List D} (h : getC O T i = some (.lst ds)) (hi : O.length ≤ i) : Gd O (.list ds) (.ref i) T := .inr ⟨i, ds, rfl, hi, h, rfl⟩
theorem callP_g {C : Cn} {O T T' : Cs} {f : Nat} {us : List U} {u : U} {d : D} (h : C.call (O ++ T) f us [] = .ok u T') (hg : Gd (O ++ T) d u T') : callP C O f us T = .ok (.d d) T := by
  rcases hg with rfl | ⟨i, ds, rfl, hi, hc, rfl⟩
  · exact callP_d h
  · exact callP_l h (by simpa using hi) hc
/-- a pure call -/
def Pu (C : Cn) (f : Nat) (us : List U) (d : D) : Prop := ∀ O T, callP C O f us T = .ok (.d d) T
theorem run_g {G : Pg} {n j np ns : Nat} {b : CB} {us : List U} {O : Cs} {d : D} (hG : G.defs j = some ⟨np, ns, b⟩) (hl : us.length = np) (h : Wp (denB (cn G n) O b (us.map some ++ List.replicate (ns - us.length) none) []) (fun _ _ => False) (fun _ _ => False) (fun _ _ => False) (Gd O d)) :
    ∃ u T', Y.run G (n + 1) O j us [] = .ok u T' ∧ Gd O d u T' := by
  have := run_wp (P := Gd O d) hG hl (wp_mono2' h)
  exact this.ex
theorem pu_of {G : Pg} {n j np ns : Nat} {b : CB} {us : List U} {d : D} (hG : G.defs j = some ⟨np, ns, b⟩) (hl : us.length = np) (h : ∀ O, Wp (denB (cn G n) O b (us.map some ++ List.replicate (ns - us.length) none) []) (fun _ _ => False) (fun _ _ => False) (fun _ _ => False) (Gd O d)) : Pu (cn G (n + 1)) j us d := by
  intro O T
  obtain ⟨u, T', e, g⟩ := run_g hG hl (h (O ++ T))
  exact callP_g (C := cn G (n + 1)) e g
/-- a cell of one's own is set -/
theorem seti_ok {O T : Cs} {r : Nat} {ds : List D} (h : getC O T r = some (.lst ds)) (lo : O.length ≤ r) (k : Int) (v : D) (j : Nat) (hj : L2.ixN ds.length k = some j) : setiU O (.ref r) (.d (.int k)) (.d v) T = .ok (.d .none) (T.set (r - O.length) (.lst (ds.set j v))) := by
  unfold setiU
  simp only [h, hj]
  unfold setC
  rw [if_pos ⟨lo, own_lt h⟩]
theorem ixN_of {n : Nat} {k : Int} (h : 0 ≤ k) (h2 : k < n) : L2.ixN n k = some k.toNat := by
  unfold L2.ixN
  simp [h, h2]
section
variable {C : Cn} {O T : Cs} {ρ : Rho}
theorem den_cP {f : Nat} {as : CA} {us : List U} {r : R U} (ha : denA C O ρ as T = .ok us T) (hc : callP C O f us T = r) : den C O ρ (.call false f as []) T = r := by
  rw [den_call, ha, R.bind_ok, if_neg (by decide), List.map_nil, List.append_nil]
  exact hc
theorem dA1 {a : CE} {u : U} (ha : den C O ρ a T = .ok u T) : denA C O ρ (.cons a .nil) T = .ok [u] T := by
  rw [denA_cons, ha, R.bind_ok, denA_nil, R.bind_ok]
theorem dA2 {a b : CE} {u v : U} (ha : den C O ρ a T = .ok u T) (hb : den C O ρ b T = .ok v T) : denA C O ρ (.cons a (.cons b .nil)) T = .ok [u, v] T := by
  rw [denA_cons, ha, R.bind_ok, dA1 hb, R.bind_ok]
theorem dA3 {a b c : CE} {u v w : U} (ha : den C O ρ a T = .ok u T) (hb : den C O ρ b T = .ok v T) (hc : den C O ρ c T = .ok w T) : denA C O ρ (.cons a (.cons b (.cons c .nil))) T = .ok [u, v, w] T := by
  rw [denA_cons, ha, R.bind_ok, dA2 hb hc, R.bind_ok]
theorem dA4 {a b c d : CE} {u v w x : U} (ha : den C O ρ a T = .ok u T) (hb : den C O ρ b T = .ok v T) (hc : den C O ρ c T = .ok w T) (hd : den C O ρ d T = .ok x T) : denA C O ρ (.cons a (.cons b (.cons c (.cons d .nil)))) T = .ok [u, v, w, x] T := by
  rw [denA_cons, ha, R.bind_ok, dA3 hb hc hd, R.bind_ok]
theorem den_orB {a b : CE} {p q : Bool} (ha : den C O ρ a T = .ok (.d (.bool p)) T) (hb : den C O ρ b T = .ok (.d (.bool q)) T) : den C O ρ (.or a b) T = .ok (.d (.bool (p || q))) T := by
  rw [den_or, ha, R.bind_ok, hb]
  cases p <;> rfl
theorem den_andB {a b : CE} {p q : Bool} (ha : den C O ρ a T = .ok (.d (.bool p)) T) (hb : den C O ρ b T = .ok (.d (.bool q)) T) : den C O ρ (.and a b) T = .ok (.d (.bool (p && q))) T := by
  rw [den_and, ha, R.bind_ok, hb]
  cases p <;> rfl
theorem den_notB {a : CE} {p : Bool} (ha : den C O ρ a T = .ok (.d (.bool p)) T) : den C O ρ (.not a) T = .ok (.d (.bool (!p))) T := by
  rw [den_not, ha, R.bind_ok]
  cases p <;> rfl
theorem dL1 {a : CE} {x : D} (ha : den C O ρ a T = .ok (.d x) T) : den C O ρ (.lst false (.cons a .nil)) T = .ok (.d (.list [x])) T := by
  rw [den_lst, dA1 ha]
  simp
end
end S
end Y

set_option Elab.async false
set_option linter.all false
set_option maxRecDepth 100000
set_option maxHeartbeats 3200000
namespace Y
open PySem PySem.Spec PyProof.Rows GQ
theorem dif_snoc (xs : List Str) (x : Str) : dif (xs ++ [x]) = difS (dif xs) x := by
  unfold dif
  rw [List.foldl_append]
  rfl
theorem mem_difS (l : List Str) (x y : Str) : y ∈ difS l x ↔ y ∈ l ∨ y = x := by
  unfold difS
  split
  · rename_i h
    exact ⟨.inl, fun q => q.elim id fun e => e ▸ h⟩
  · simp
theorem mem_dif (xs : List Str) (y : Str) : y ∈ dif xs ↔ y ∈ xs := by
  have key : ∀ (xs l : List Str), y ∈ xs.foldl difS l ↔ y ∈ l ∨ y ∈ xs := by
    intro xs
    induction xs with
    | nil => intro l; simp
    | cons x xs ih =>
      intro l
      rw [List.foldl_cons, ih, mem_difS]
      simp [or_assoc]
  unfold dif
  rw [key]
  simp
theorem dif_len (xs : List Str) : (dif xs).length ≤ xs.length := by
  have key : ∀ (xs l : List Str), (xs.foldl difS l).length ≤ l.length + xs.length := by
    intro xs
    induction xs with
    | nil => intro l; exact Nat.le_refl _
    | cons x xs ih =>
      intro l
      have h1 := ih (difS l x)
      have h2 : (difS l x).length ≤ l.length + 1 := by unfold difS; split <;> simp
      simp only [List.foldl_cons, List.length_cons]
      omega
  have := key xs []
  simpa [dif] using this
/-- the first i of some texts are in the set -/
def Held (P : Program) (w : World) (h : Heap) (S : Addr) (xs : List Str) (i : Nat) : Prop := h.SetOf (PySem.strKind P w) S (fun z => (xs.take i).any (· == z)) (dif (xs.take i)).length
section
variable {P : Program} {w : World} {A : Around} {h h' : Heap} {S : Addr} {xs : List Str} {i : Nat}
theorem Held.keep (H : Held P w h S xs i) (k : ∀ o, h.get? S = some o → h'.get? S = some o) : Held P w h' S xs i := by
  obtain ⟨o, es, ep, t, ho, rest⟩ := H
  exact ⟨o, es, ep, t, k o ho, rest⟩
theorem Held.more {x : Str} (hx : xs[i]? = some x) (H : h'.SetOf (PySem.strKind P w) S (fun z => (xs.take i).any (· == z) || decide (z = x)) (if ((xs.take i).any (· == x)) = true then (dif (xs.take i)).length else (dif (xs.take i)).length + 1)) : Held P w h' S xs (i + 1) := by
  have ht : xs.take (i + 1) = xs.take i ++ [x] := by rw [List.take_add_one, hx]; rfl
  have hm : ((xs.take i).any (· == x)) = true ↔ x ∈ dif (xs.take i) := by
    rw [mem_dif, List.any_eq_true]
    constructor
    · rintro ⟨y, hy, e⟩
      have e : y = x := beq_iff_eq.mp e
      exact e ▸ hy
    · exact fun h => ⟨x, h, by simp⟩
  refine SetOf_congr H (fun z => ?_) ?_
  · rw [ht]
    show ((xs.take i).any (· == z) || decide (z = x)) = (xs.take i ++ [x]).any (· == z)
    rw [List.any_append]
    by_cases e : z = x
    · subst e; simp
    · have : (x == z) = false := by simpa [beq_iff_eq] using fun q : x = z => e q.symm
      simp [this, e]
  · rw [ht, dif_snoc]
    unfold difS
    by_cases q : x ∈ dif (xs.take i)
    · rw [if_pos q, if_pos (hm.mpr q)]
    · rw [if_neg q, if_neg fun z => q (hm.mp z)]
      simp
variable {R : Result → Shared → Prop} {I : Addr} {fp wr : List Addr} {Gn : Array GenState → Array GenState → Prop} {n : Nat} {Pv : Nat → Value → Prop} {St : Nat → Shared → Prop}
/-- the filling loop -/
theorem fill_texts (W : WalksS P w A.in1 I fp wr Gn n Pv St) (hSf : S ∉ fp) (hn : xs.length = n) (hb : n + 1 < scanBound) (hv : ∀ i v, Pv i v → ∃ x t, xs[i]? = some x ∧ v = .str x t) :
    ∀ (k i : Nat) (s : Shared), n - i = k → i ≤ n → St i s → Held P w s.heap S xs i → (∀ s', Moved (S :: wr) Gn s s' → Held P w s'.heap S xs n → R (.ok (.ret .none)) s') → codeAny (model P w) A (.builtin "set.update.loop" ⟨[.ref S, .ref I], []⟩) R s := by
  have hSw : S ∉ wr := fun q => hSf (W.sub _ q)
  have wider : ∀ b ∈ wr, b ∈ S :: wr := fun b hb => List.mem_cons_of_mem _ hb
  intro k
  induction k with
  | zero =>
    intro i s hk hi hst hS hR
    obtain rfl : i = n := by omega
    refine codeAny_builtin PyProof.Rows.F.entry_set_update_loop ?_
    rw [Around.under_plainId PyProof.Rows.F.plain_set_update_loop _]
    show wpAny _ A.in1 (pyNext (.ref I) >>= _) _ _ s
    refine wpAny_bind (W.done s _ _ hst fun s' hm => ?_)
    show wpAny _ A.in1 (ret Value.none) _ _ s'
    exact wpAny_pure (hR s' (hm.mono wider) (hS.keep fun o ho => hm.heap S _ hSw ho))
  | succ k ih =>
    intro i s hk hi hst hS hR
    have hlt : i < n := by omega
    refine codeAny_builtin PyProof.Rows.F.entry_set_update_loop ?_
    rw [Around.under_plainId PyProof.Rows.F.plain_set_update_loop _]
    show wpAny _ A.in1 (pyNext (.ref I) >>= _) _ _ s
    refine wpAny_bind (W.item i s _ _ hlt hst fun v s' hP hst' hm => ?_)
    obtain ⟨x, t, hx, rfl⟩ := hv i v hP
    have hS' := hS.keep fun o ho => hm.heap S _ hSw ho
    show wpAny _ A.in1 (holding [Value.str x t] (setAdd S (.str x t)) >>= _) _ _ s'
    refine wpAny_bind (wpAny_holding ?_)
    unfold setAdd
    refine wpAny_holding ?_
    refine wpAny_bind ((PySem.strKind P w).pyHash (k := x) (strKind_is _ _ _ _) ?_)
    refine wpAny_setAddHashed_of (knd := PySem.strKind P w) (s := { s' with toks := s'.toks + 1 }) (strKind_is _ _ _ _) rfl hS' (by have := dif_len (xs.take i); rw [List.length_take] at this; omega) fun h' hsb hS2 => ?_
    refine wpAny_pure ⟨plainId_quiet PyProof.Rows.F.plain_set_update_loop _, ih (i + 1) _ (by omega) hlt (W.frame _ s' _ _ hst' (Nat.le_succ _) fun b hb o e => ?_) (Held.more hx hS2) fun s'' hm'' hS'' => ?_⟩
    · rw [hsb.2 b fun q : b = S => hSf (q ▸ hb)]; exact e
    · refine hR s'' (Moved.trans W.gtrans ((hm.mono wider).then_heap (Nat.le_succ _) fun b o hb e => ?_) hm'') hS''
      rw [hsb.2 b fun q : b = S => hb (q ▸ List.mem_cons_self)]; exact e
end
section
variable {P : Program} {w : World} {A : Around} {E : Value → Shared → Prop} {s : Shared}
/-- an empty set, new -/
def emptyS (led : Bool) : Obj := { cls := .type "set", dict := none, data := .set #[] 0 (.fresh 0 0 led) }
/-- what set(texts) leaves behind -/
def Made (P : Program) (w : World) (s : Shared) (xs : List Str) (s2 : Shared) : Prop := ∃ h' tk, s2 = { s with heap := h', toks := tk } ∧ Held P w h' s.heap.objs.size xs xs.length ∧ ∀ b o, b < s.heap.objs.size → s.heap.get? b = some o → h'.get? b = some o
theorem init_texts {l : Addr} {items : Array Value} {xs : List Str} (led : Bool) (hh : A.handled = none) (hl : s.heap.IsList l items) (hi : StrsAre items.toList xs) (hb : xs.length + 1 < scanBound) :
    wpAny (model P w) A.in1 (Builtin.«set.__init__» ⟨[.ref s.heap.objs.size, .ref l], []⟩) (FinOf P w A (wants (fun r s2 => r = .none ∧ Made P w s xs s2) E)) (fun e s' => wants (fun r s2 => r = .none ∧ Made P w s xs s2) E (.error e) s') { s with heap := s.heap.push (emptyS led) } := by
  have hS : (s.heap.push (emptyS led)).get? s.heap.objs.size = some (emptyS led) := Heap.get?_push_size _ rfl
  have hT : Shared.TypeIs { s with heap := s.heap.push (emptyS led) } (.ref s.heap.objs.size) "set" := ⟨_, hS, rfl⟩
  obtain ⟨⟨cl, di, da, sl⟩, hol, hcl, nl, hdl⟩ := hl
  simp only at hcl hdl
  subst hcl hdl
  have hlS : l < s.heap.objs.size := Heap.lt_size hol
  have hol' : (s.heap.push (emptyS led)).get? l = some { cls := .type "list", dict := di, data := .seq items nl, slots := sl } := Heap.get?_push_of_some _ hol
  have q1 := PySem.F.sub_list_set
  have q2 := PySem.F.sub_list_frozenset
  have q3 : (Value.type "list" == Value.type "dict") = false := by decide
  have hl1 : (s.heap.push (emptyS led)).IsList l items := ⟨_, hol', rfl, nl, rfl⟩
  have hsz : xs.length = items.size := by rw [← StrsAre.len_eq hi, Array.length_toList]
  have hne : l ≠ (s.heap.push (emptyS led)).objs.size := by rw [Heap.size_push]; exact Nat.ne_of_lt (Nat.lt_succ_of_lt hlS)
  unfold Builtin.«set.__init__» noKeywords Builtin.Frozenset.updateFrom
  generalize hI : pyIter = PI
  wp_walk
  subst hI
  refine wpAny_pyIter_list hl1 ?_
  refine wpAny_bind (wpAny_runValue ?_)
  refine fill_texts (n := items.size) ((Walks.list (by simp [hh]) _ l hne items).toS) (xs := xs) ?_ hsz (by omega) (fun i v hv => ?_) (items.size - 0) 0 _ (by omega) (Nat.zero_le _) ⟨⟨_, Heap.get?_push_size _ rfl, rfl, rfl⟩, hl1.push _⟩ ?_ fun s' hm hS' => ?_
  · rw [Heap.size_push]
    simp only [List.mem_cons, List.not_mem_nil, or_false, not_or]
    exact ⟨Nat.ne_of_lt (Nat.lt_succ_self _), Nat.ne_of_gt hlS⟩
  · have hv : items[i]? = some v := hv
    obtain ⟨t, rfl⟩ := SS.strs_at hi i v (by rw [Array.getElem?_toList]; exact hv)
    have hlt : i < xs.length := by
      rw [hsz]
      exact (Array.getElem?_eq_some_iff.mp hv).1
    exact ⟨_, t, List.getElem?_eq_getElem hlt, by rw [List.getD_eq_getElem?_getD, List.getElem?_eq_getElem hlt]; rfl⟩
  · have hget : ((s.heap.push (emptyS led)).push { cls := .type "list_iterator", data := .fields #[.ref l, .int 0 0] }).get? s.heap.objs.size = some (emptyS led) := Heap.get?_push_of_some _ hS
    exact SetOf_congr ((setObjOf_fresh (knd := PySem.strKind P w) led).setOf hget (by omega)) (fun _ => rfl) rfl
  · obtain ⟨h', g', d', tk', os'⟩ := s'
    have eg : g' = s.gens := hm.gens
    have ed : d' = s.drawn := hm.drawn
    have eo : os' = s.os := hm.os
    subst eg ed eo
    show wpAny _ _ _ _ _ _
    refine wpAny_pure ?_
    show wpAny _ _ (ret Value.none) _ _ _
    refine wpAny_pure ⟨rfl, h', tk', rfl, by rw [hsz]; exact hS', fun b o hb' e => ?_⟩
    refine hm.heap b o ?_ (Heap.get?_push_of_some _ (Heap.get?_push_of_some _ e))
    rw [Heap.size_push]
    simp only [List.mem_cons, List.not_mem_nil, or_false, not_or]
    exact ⟨Nat.ne_of_lt hb', Nat.ne_of_lt (Nat.lt_succ_of_lt hb')⟩
/-- set(texts) -/
theorem call_texts {l : Addr} {items : Array Value} {xs : List Str} {Q : Value → Shared → Prop} (hh : A.handled = none) (hl : s.heap.IsList l items) (hi : StrsAre items.toList xs) (hb : xs.length + 1 < scanBound)
    (h : ∀ s2, Made P w s xs s2 → Q (.ref s.heap.objs.size) s2) : wpAny (model P w) A (call (.type "set") [.ref l]) Q E s := by
  obtain ⟨c, tl, hmro⟩ := PySem.F.called_set.mro
  have f1 := PySem.F.called_set.made
  have f2 := PySem.F.called_set.sub
  have f3 := PySem.F.called_set.notType
  have f4 := PySem.F.called_set.canCreate
  have f5 := PySem.F.typeCall_set_1 (.ref l)
  refine wpAny_call (codeAny_of_tree ?_)
  show wpAny _ _ (callAny (.type "set") _) _ _ _
  refine wpAny_pure ⟨Code.quiet_builtin _ (by decide +kernel), codeAny_builtin PySem.F.entry_type_call ?_⟩
  rw [Around.under_plain (weight_type_call_type "set" [.ref l] []) rfl]
  repeat (any_goals (first | assumption | wp_step))
  refine codeAny_mono (code_set_new_1 (.ref l) (E := E) (Q₁ := fun obj s₁ => ∃ led : Bool, obj = .ref s.heap.objs.size ∧ s₁ = { s with heap := s.heap.push (emptyS led) }) fun led => ⟨led, rfl, rfl⟩) fun r s₁ hr => ?_
  cases r with
  | error e => exact hr
  | ok fl =>
    cases fl with
    | ret obj =>
      obtain ⟨led, rfl, rfl⟩ := hr
      have hS : (s.heap.push (emptyS led)).get? s.heap.objs.size = some (emptyS led) := Heap.get?_push_size _ rfl
      have hT : Shared.TypeIs { s with heap := s.heap.push (emptyS led) } (.ref s.heap.objs.size) "set" := ⟨_, hS, rfl⟩
      have f6 := PySem.F.called_set.init.lookup
      have f7 := PySem.F.called_set.init.bind (.ref s.heap.objs.size)
      repeat (any_goals (first | assumption | wp_step))
      refine codeAny_mono (codeAny_call_builtin (R := wants (fun r s₂ => r = .none ∧ Made P w s xs s₂) E) PySem.F.called_set.init.plain PySem.F.entry_set_init (check_set_init_1 hT (init_texts led hh hl hi hb))) fun r₂ s₂ hr₂ => ?_
      cases r₂ with
      | error e => exact hr₂
      | ok fl₂ =>
        cases fl₂ with
        | ret r =>
          obtain ⟨rfl, hm⟩ := hr₂
          repeat (any_goals (first | assumption | wp_step))
          exact h _ hm
        | _ => exact hr₂.elim
    | _ => exact hr.elim
end
end Y
namespace Y
open PySem PySem.Spec L2 PyProof.Rows
section
variable {X : Cx}
/-- len(set(xs)), different texts -/
def tLenTexts (K : PySem.W.Frag) (ta : TE) : TE := fun σ H Q => ta σ H fun x H1 => ∃ l, ∃ xs : List Str, x = .ref l ∧ SqL K H1 l (xs.map V.str) ∧ xs.length ≤ 60 ∧ Q (.int (dif xs).length) H1
theorem pe_lenTexts {a : Expr} {ta : TE} {p p2 q pos : Pos} (hc : X.calm = true) (hg : Gl X "len") (hm : X.mg "len" = none) (hg2 : Gl X "set") (hm2 : X.mg "set" = none) (ha : PE X a ta)
    (na : starEach [a] X.env = (false, eval a X.env) :: starEach [] X.env := by rfl) : PE X (.Call (.Name "len" p) [.Call (.Name "set" p2) [a] [] q] [] pos) (tLenTexts X.K ta) := by
  refine ⟨fun pins s σ H Q I h => ?_⟩
  refine Call_ (ld_blt I hg hm PySem.boot_len ?_)
  refine PyProof.Rows.callWith_builtin1 (PyProof.Rows.args_cons ?_ rfl) rfl rfl
  refine Call_ (ld_blt I hg2 hm2 PyProof.Rows.boot_set ?_)
  refine PyProof.Rows.callWith_type1 (PyProof.Rows.args_cons (thn (ha.run pins s σ H _ I h) fun v s1 ⟨x, H1, I1, r1, q1⟩ => PyProof.Rows.args_nil ?_) na) na rfl
  obtain ⟨l, xs, rfl, hq, hl, q1⟩ := q1
  cases r1
  obtain ⟨its, r, pl, hz⟩ := I1.list hq
  refine call_texts (I1.ok.hd hc) pl.isList (by simpa using strsAre_of r) (by unfold scanBound; omega) fun s2 hM => ?_
  obtain ⟨h', tk, rfl, hS, hk⟩ := hM
  refine PyProof.Rows.args_nil ?_
  obtain ⟨o, es, ep, t, ho, hex, hdt, _, _, _, hf, hn⟩ := hS
  rw [List.take_length] at hn
  have hdl := dif_len xs
  have I2 : Inv X pins σ H1 { s1 with heap := h', toks := tk } := I1.kept fun b o e => hk b o (Heap.lt_size e) e
  refine call_len_set ho hex hdt hf (by rw [hn] <;> omega) ⟨.int (dif xs).length, H1, I2.tok _, ⟨_, by rw [hn]⟩, q1⟩
variable {P : Program} {w : World} {K : PySem.W.Frag} {mg : Str → Option Value} {base : Heap} {ca : Nat → Addr} {N : List Str} {sc : Scope} {vm tm : List Bool} {n : Nat} {C : Cn} {a : Expr} {ea : CE} {p p2 pos pos2 : Pos}
theorem y_lenset (g : Cg X N sc vm tm n) {l : Bool} (hL : X.mg "len" = none) (hR : X.mg "set" = none) (ha : PE X a (RE ca C ea)) (gl : sc.names.lookup ("len" : Str) = some .globalImplicit := by rfl) (gr : sc.names.lookup ("set" : Str) = some .globalImplicit := by rfl)
    (na : starEach [a] X.env = (false, eval a X.env) :: starEach [] X.env := by rfl) : PE X (.Call (.Name "len" p) [.Call (.Name "set" p2) [a] [] pos2] [] pos) (RE ca C (.bi l .lenset (.cons ea .nil))) := by
  refine (pe_lenTexts g.calm (gl_of g gl) hL (gl_of g gr) hR ha na).imp ?_
  rintro σ H Q ⟨φ, G, O, ρ, T, t, h⟩
  have e0 : den C O ρ (.bi l .lenset (.cons ea .nil)) T = (den C O ρ ea T).bind fun u T => lensetB O T u := by
    rw [den_bi, denA_cons, R.bind_bind]
    congr 1
  rw [e0] at h
  refine ⟨φ, G, O, ρ, T, t, Pc.imp h.bind ?_⟩
  rintro x H1 ⟨φ1, G1, T1, u, f1, s1, r1, h1⟩
  unfold lensetB at h1
  split at h1
  · rename_i ds hs
    obtain ⟨us, e1, e2⟩ := Option.bind_eq_some_iff.mp hs
    obtain ⟨b, vs, rfl, hb, ra⟩ := seqL_ok s1 r1 e1
    split at h1
    · rename_i zs hz
      have e3 := strsOf_ok (ra.down e2) hz
      subst e3
      split at h1
      · rename_i hd
        exact ⟨b, zs, rfl, .inl hb, hd, Pc.now h1 s1 (.d (.int _))⟩
      · exact h1.elim
    · exact h1.elim
  · exact h1.elim
end
end Y

set_option Elab.async false
set_option linter.all false
set_option maxRecDepth 100000
set_option maxHeartbeats 3200000
namespace L2
open PySem PySem.Spec PyProof.Rows
section
variable {X : Cx}
theorem PS.nox {st : Stmt} {t : TS} (h : PS X.nox st t) : PS X st t := ⟨fun pins s σ H D I hw =>
  wpAny_mono (h.run pins s σ H D (I.wish _) hw) (fun _ _ q => q.unwish) fun _ _ z => False.elim z⟩
theorem PA.nox {es : List Expr} {t : TA} (h : PA X.nox es t) : PA X es t := ⟨fun pos pins s σ H Q I hw =>
  wpAny_mono (h.run pos pins s σ H Q (I.wish _) hw) (fun _ _ ⟨v, H', I', r, q⟩ => ⟨v, H', I'.unwish, r, q⟩) fun _ _ z => False.elim z⟩
theorem PI.nox {tg e : Expr} {t : TI} (h : PI X.nox tg e t) : PI X tg e t := ⟨fun pins s σ H R I hw =>
  wpAny_mono (h.run pins s σ H R (I.wish _) hw) (fun _ _ z => wpAny_mono z (fun _ _ ⟨it, fp, tn, J, H', e, I', a, b, c, d⟩ => ⟨it, fp, tn, J, H', e, I'.unwish, a, b, c, d⟩) fun _ _ z => False.elim z) fun _ _ z => False.elim z⟩
theorem PG.nox {tg : Expr} {t : TG} (h : PG X.nox tg t) : PG X tg t := ⟨fun pins s σ H v u Q I r hw =>
  wpAny_mono (h.run pins s σ H v u Q (I.wish _) r hw) (fun _ _ ⟨σ', H', I', q⟩ => ⟨σ', H', I'.unwish, q⟩) fun _ _ z => False.elim z⟩
end
end L2
namespace Y
open PySem PySem.Spec PyProof.Rows L2
section
variable {ca : Nat → Addr} {φ φ' φ0 : List Addr} {G G' G0 H : Hp} {O T : Cs} {X : Cx} {K : PySem.W.Frag} {C : Cn} {σ : L2.St} {ρ : Rho} {D : Ends} {W : WX} {pos p apos cpos tpos : Pos} {a b e tg o i : Expr} {ea eb ec eo : CE} {as : CA} {es : List Expr}
/-- what is wanted of a statement's end, where exceptions are taken -/
def PFx (ca : Nat → Addr) (φ : List Addr) (G : Hp) (O : Cs) (r : F) (D : Ends) (W : WX) : Prop := match r with
  | .exc c fs ρ T => ∀ σ φ' G' H' d, Fut φ G φ' G' → At ca φ' G' H' O T σ ρ → XF G' d fs → W (.ref (ca c)) d σ H'
  | r => PF ca φ G O r D
theorem PFx.later {r : F} (f : Fut φ G φ' G') (h : PFx ca φ G O r D W) : PFx ca φ' G' O r D W := by
  cases r with
  | exc c fs ρ T => exact fun σ φ2 G2 H2 d f2 t x => h σ φ2 G2 H2 d (f.trans f2) t x
  | nx ρ T => exact fun σ φ2 G2 H2 f2 t => h σ φ2 G2 H2 (f.trans f2) t
  | rt u T => exact fun v φ2 G2 H2 f2 s r => h v φ2 G2 H2 (f.trans f2) s r
  | bk ρ T => exact fun σ φ2 G2 H2 f2 t => h σ φ2 G2 H2 (f.trans f2) t
  | ct ρ T => exact fun σ φ2 G2 H2 f2 t => h σ φ2 G2 H2 (f.trans f2) t
  | fail => exact h
theorem PFx.pf {r : F} (h : PFx ca φ G O r D W) (hn : ∀ c fs ρ T, r ≠ .exc c fs ρ T) : PF ca φ G O r D := by
  cases r with
  | exc c fs ρ T => exact absurd rfl (hn c fs ρ T)
  | nx ρ T => exact h
  | rt u T => exact h
  | bk ρ T => exact h
  | ct ρ T => exact h
  | fail => exact h
def RSx (ca : Nat → Addr) (C : Cn) (W : WX) (c : CS) : TS := fun D σ H => ∃ φ G O ρ T, At ca φ G H O T σ ρ ∧ PFx ca φ G O (denS C O c ρ T) D W
def RBx (ca : Nat → Addr) (C : Cn) (W : WX) (c : CB) : TS := fun D σ H => ∃ φ G O ρ T, At ca φ G H O T σ ρ ∧ PFx ca φ G O (denB C O c ρ T) D W
/-- a statement that raises nothing -/
def NoX (c : CS) : Prop := ∀ (C : Cn) (O : Cs) (ρ : Rho) (T : Cs) k fs ρ' T', denS C O c ρ T ≠ .exc k fs ρ' T'
theorem of_nox {r : R U} {k : U → Cs → F} (h : ∀ u T c fs ρ' T', k u T ≠ .exc c fs ρ' T') : ∀ c fs ρ' T', F.of ρ r k ≠ .exc c fs ρ' T' := by
  intro c fs ρ' T'
  cases r with
  | ok u T => exact h u T c fs ρ' T'
  | exc => exact fun z => nomatch z
  | fail => exact fun z => nomatch z
theorem n_asg {g : Tg} {e : CE} : NoX (.asg g e) := fun C O ρ T => by
  rw [denS]
  refine of_nox fun u T k fs ρ' T' => ?_
  cases asgT O T g u ρ <;> exact fun z => nomatch z
theorem n_ex {e : CE} : NoX (.ex e) := fun C O ρ T => by
  rw [denS]
  exact of_nox fun u T k fs ρ' T' => fun z => nomatch z
theorem n_ret {e : CE} : NoX (.ret e) := fun C O ρ T => by
  rw [denS]
  exact of_nox fun u T k fs ρ' T' => fun z => nomatch z
theorem n_retN : NoX .retN := fun C O ρ T => by
  rw [denS]
  exact fun _ _ _ _ z => nomatch z
theorem n_brk : NoX .brk := fun C O ρ T => by
  rw [denS]
  exact fun _ _ _ _ z => nomatch z
theorem n_cnt : NoX .cnt := fun C O ρ T => by
  rw [denS]
  exact fun _ _ _ _ z => nomatch z
theorem n_pass : NoX .pass := fun C O ρ T => by
  rw [denS]
  exact fun _ _ _ _ z => nomatch z
theorem n_bad : NoX .bad := fun C O ρ T => by
  rw [denS]
  exact fun _ _ _ _ z => nomatch z
theorem n_seti {o i e : CE} : NoX (.seti o i e) := fun C O ρ T => by
  rw [denS]
  refine of_nox fun u T => of_nox fun u T => of_nox fun u T => of_nox fun u T k fs ρ' T' => fun z => nomatch z
theorem n_setf {c : Nat} {f : Str} {o e : CE} : NoX (.setf c o f e) := fun C O ρ T => by
  rw [denS]
  refine of_nox fun u T => of_nox fun u T k fs ρ' T' => ?_
  split
  · refine of_nox ?_ _ _ _ _
    intro u T k fs ρ' T'
    exact fun z => nomatch z
  · exact fun z => nomatch z
/-- a statement that raises nothing, in its place -/
theorem x_st {st : Stmt} {c : CS} (h : PS X.nox st (RS ca C c)) (hn : NoX c) : PS X st (RSx ca C W c) := h.nox.imp fun D σ H => by
  rintro ⟨φ, G, O, ρ, T, t, h⟩
  exact ⟨φ, G, O, ρ, T, t, h.pf fun k fs ρ' T' => hn C O ρ T k fs ρ' T'⟩
theorem x_nil : PSs X [] (RBx ca C W .nil) := pss_nil.imp fun D σ H => by
  rintro ⟨φ, G, O, ρ, T, t, h⟩
  rw [denB] at h
  exact h σ φ G H Fut.refl t
theorem x_cons {st : Stmt} {sts : List Stmt} {c : CS} {b : CB} (h1 : PS X st (RSx ca C W c)) (h2 : PSs X sts (RBx ca C W b)) : PSs X (st :: sts) (RBx ca C W (.cons c b)) := (pss_cons h1 h2).imp fun D σ H => by
  rintro ⟨φ, G, O, ρ, T, t, h⟩
  rw [denB] at h
  refine ⟨φ, G, O, ρ, T, t, ?_⟩
  cases e : denS C O c ρ T with
  | nx ρ' T' =>
    rw [e] at h
    exact fun σ' φ' G' H' f t' => ⟨φ', G', O, ρ', T', t', PFx.later f h⟩
  | rt u T' => rw [e] at h; exact h
  | bk ρ T => rw [e] at h; exact h
  | ct ρ T => rw [e] at h; exact h
  | exc => rw [e] at h; exact h
  | fail => rw [e] at h; exact h
/-- a test, then one of two blocks -/
theorem PFx.br {r : R U} {k : Bool → Cs → F} (h : PFx ca φ G O (F.of ρ r fun x T => match asB x with | some true => k true T | some false => k false T | none => .fail) D W) :
    Pc ca rB φ G O (tst r) (fun b H' => Mid ca rB φ G O b H' fun a T' φ' G' => PFx ca φ' G' O (k a T') D W) := by
  cases r with
  | ok u T =>
    have h : PFx ca φ G O (match asB u with | some true => k true T | some false => k false T | none => .fail) D W := h
    show Pc ca rB φ G O (R.ofO T (asB u)) _
    cases e : asB u with
    | none => rw [e] at h; exact h
    | some b =>
      rw [e] at h
      intro b' φ2 G2 H2 f2 s r
      have r : b' = b := r
      subst r
      refine ⟨φ2, G2, T, b', f2, s, rfl, ?_⟩
      cases b' <;> exact PFx.later f2 h
  | exc => exact h
  | fail => exact h
theorem x_if {t : Expr} {a b : List Stmt} {ct : CE} {cx cy : CB} (ht : PT X.nox t (RT ca C ct)) (ha : PSs X a (RBx ca C W cx)) (hb : PSs X b (RBx ca C W cy)) : PS X (.If t a b pos) (RSx ca C W (.ite ct cx cy)) := (ps_if ht.nox ha hb).imp fun D σ H => by
  rintro ⟨φ, G, O, ρ, T, t, h⟩
  rw [denS] at h
  refine ⟨φ, G, O, ρ, T, t, Pc.imp (PFx.br (k := fun b T => if b = true then denB C O cx ρ T else denB C O cy ρ T) h) ?_⟩
  rintro k H1 ⟨φ1, G1, T1, u, f1, s1, r1, h1⟩
  have r1 : k = u := r1
  subst r1
  cases k with
  | true => exact ⟨φ1, G1, O, ρ, T1, ⟨s1, f1.lo t.l, t.n⟩, h1⟩
  | false => exact ⟨φ1, G1, O, ρ, T1, ⟨s1, f1.lo t.l, t.n⟩, h1⟩
theorem x_fo {tg e : Expr} {b : List Stmt} {g : Tg} {it : IT} {cb : CB} (hp : PassesOwn (model X.prog X.w) X.A X.env X.xe) (hc : X.calm = true) (hi : PI X tg e (RI ca C it)) (hg : PG X tg (RG ca g)) (hb : PSs X b (RBx ca C W cb))
    (hs : ∀ x, foldedSetIterable e X.env x = pure x) : PS X (.For tg e b [] pos) (RSx ca C W (.for_ g it cb)) := (ps_for hp hc hi hg hb hs).imp fun D σ H => by
  rintro ⟨φ, G, O, ρ, T, t, h⟩
  rw [denS] at h
  refine ⟨φ, G, O, ρ, T, t, ?_⟩
  cases ei : denI C O ρ it T with
  | exc => rw [ei] at h; exact h
  | fail => rw [ei] at h; exact h
  | ok its T0 =>
    rw [ei] at h
    intro J φ1 G1 H1 f1 s1 jok
    generalize hbd : (fun u ρ T => match asgT O T g u ρ with
        | some ρ' => denB C O cb ρ' T
        | none => F.fail) = bd at h
    refine ⟨fun i m σ H => ∃ φ G ρ T, Fut φ1 G1 φ G ∧ At ca φ G H O T σ ρ ∧ m = its.us.length - i ∧ i ≤ its.us.length ∧ PFx ca φ G O (loopF bd (fun T' => sameW O its.t T' its.w) (its.us.drop i) ρ T) D W,
      ⟨its.us.length, φ1, G1, ρ, T0, Fut.refl, ⟨s1, f1.lo t.l, t.n⟩, rfl, Nat.zero_le _, PFx.later f1 h⟩, ?_⟩
    rintro i m σ H ⟨φ, G, ρ, T, f, t, rfl, hi, h⟩
    by_cases hlt : i < its.us.length
    · rw [List.drop_eq_getElem_cons hlt] at h
      by_cases hw : sameW O its.t T its.w = true
      · rw [loopF_c _ _ _ _ _ _ hw] at h
        have jj := (jok φ G H T f t.s hw).1 i its.us[i] (List.getElem?_eq_getElem hlt)
        refine .inr ⟨jj.1, fun σ' H' => ∃ φ G ρ T, Fut φ1 G1 φ G ∧ At ca φ G H' O T σ' ρ ∧ PFx ca φ G O (loopF bd (fun T' => sameW O its.t T' its.w) (its.us.drop (i + 1)) ρ T) D W,
          fun σ' H' hh => ⟨its.us.length - (i + 1), by omega, ?_⟩, fun x H' hy => ?_⟩
        · obtain ⟨φ2, G2, ρ2, T2, a, b, c⟩ := hh
          exact ⟨φ2, G2, ρ2, T2, a, b, rfl, hlt, c⟩
        · obtain ⟨_, G2, f2, s2, r2⟩ := jj.2 x H' hy
          refine ⟨φ, G2, O, ρ, T, its.us[i], ⟨s2, f2.lo t.l, t.n⟩, r2, ?_⟩
          rw [← hbd] at h
          simp only at h
          rw [hbd] at h
          cases ea : asgT O T g its.us[i] ρ with
          | none => rw [ea] at h; exact h
          | some ρ' =>
            rw [ea] at h
            simp only at h ⊢
            refine fun σ' t' _ => ⟨φ, G2, O, ρ', T, t', ?_⟩
            cases eb : denB C O cb ρ' T with
            | nx ρ2 T2 => rw [eb] at h; exact fun σ3 φ3 G3 H3 f3 t3 => ⟨φ3, G3, ρ2, T2, (f.trans f2).trans f3, t3, PFx.later (f2.trans f3) h⟩
            | ct ρ2 T2 => rw [eb] at h; exact fun σ3 φ3 G3 H3 f3 t3 => ⟨φ3, G3, ρ2, T2, (f.trans f2).trans f3, t3, PFx.later (f2.trans f3) h⟩
            | bk ρ2 T2 => rw [eb] at h; exact fun σ3 φ3 G3 H3 f3 t3 => h σ3 φ3 G3 H3 (f2.trans f3) t3
            | rt u T2 => rw [eb] at h; exact fun v3 φ3 G3 H3 f3 s3 r3 => h v3 φ3 G3 H3 (f2.trans f3) s3 r3
            | exc => rw [eb] at h; exact PFx.later f2 h
            | fail => rw [eb] at h; exact h
      · rw [loopF, if_neg hw] at h
        exact h.elim
    · have e : i = its.us.length := by omega
      subst e
      rw [List.drop_length, loopF] at h
      by_cases hw : sameW O its.t T its.w = true
      · rw [if_pos hw] at h
        exact .inl ⟨(jok φ G H T f t.s hw).2, h σ φ G H Fut.refl t⟩
      · rw [if_neg hw] at h
        exact h.elim
theorem x_wh {t : Expr} {b : List Stmt} {ct : CE} {cb : CB} {n : Nat} (hp : PassesOwn (model X.prog X.w) X.A X.env X.xe) (ht : PT X.nox t (RT ca C ct)) (hb : PSs X b (RBx ca C W cb)) : PS X (.While t b [] pos) (RSx ca C W (.wh n ct cb)) := (ps_while hp ht.nox hb).imp fun D σ H => by
  rintro ⟨φ, G, O, ρ, T, t, h⟩
  rw [denS] at h
  refine ⟨fun m σ H => ∃ φ G ρ T, At ca φ G H O T σ ρ ∧ PFx ca φ G O (loopW (fun ρ T => den C O ρ ct T) (fun ρ T => denB C O cb ρ T) m ρ T) D W, ⟨n, φ, G, ρ, T, t, h⟩, ?_⟩
  rintro m σ H ⟨φ, G, ρ, T, t, h⟩
  cases m with
  | zero => exact h.elim
  | succ m =>
    rw [loopW_s] at h
    refine ⟨φ, G, O, ρ, T, t, Pc.imp (PFx.br (k := fun k T => if k = true then (match denB C O cb ρ T with
      | .nx ρ' T' => loopW (fun ρ T => den C O ρ ct T) (fun ρ T => denB C O cb ρ T) m ρ' T' | .ct ρ' T' => loopW (fun ρ T => den C O ρ ct T) (fun ρ T => denB C O cb ρ T) m ρ' T'
      | .bk ρ' T' => .nx ρ' T'
      | .rt u T' => .rt u T' | .exc c fs ρ T => .exc c fs ρ T | .fail => .fail) else .nx ρ T) h) ?_⟩
    rintro k H1 ⟨φ1, G1, T1, u, f1, s1, r1, h1⟩
    have r1 : k = u := r1
    subst r1
    have t1 : At ca φ1 G1 H1 O T1 σ ρ := ⟨s1, f1.lo t.l, t.n⟩
    cases k with
    | false => exact h1 σ φ1 G1 H1 Fut.refl t1
    | true =>
      rw [if_pos rfl] at h1 ⊢
      refine ⟨_, fun σ' H' hh => ⟨m, Nat.lt_succ_self m, hh⟩, φ1, G1, O, ρ, T1, t1, ?_⟩
      cases e : denB C O cb ρ T1 with
      | nx ρ' T' => rw [e] at h1; exact fun σ' φ' G' H' f t' => ⟨φ', G', ρ', T', t', PFx.later f h1⟩
      | ct ρ' T' => rw [e] at h1; exact fun σ' φ' G' H' f t' => ⟨φ', G', ρ', T', t', PFx.later f h1⟩
      | bk ρ' T' => rw [e] at h1; exact h1
      | rt u T' => rw [e] at h1; exact h1
      | exc => rw [e] at h1; exact h1
      | fail => rw [e] at h1; exact h1
/-- raise where no exception may leave: nothing is promised -/
theorem s_raise0 {st : Stmt} {c : Nat} {ns : List Str} {as : CA} : PS X st (RS ca C (.raise c ns as)) := ps_never.imp fun D σ H => by
  rintro ⟨φ, G, O, ρ, T, t, h⟩
  rw [denS] at h
  split at h
  · split at h
    · split at h <;> exact h
    · exact h
  · exact h
/-- a class whose instances may be raised -/
def RaisesK (K : PySem.W.Frag) (cls : Value) : Prop := PySem.W.subIn K cls (.type "BaseException") = some true ∧ PySem.W.typeIn K cls = some (.type "type")
/-- raise X('..'), X without __init__ -/
theorem x_raise0 {c j : Nat} {x m : Str} {p2 : Pos} {bmB : List Value} {B newId initId : String} (hc : X.calm = true) (tk : Takes X W) (Fx : ExcBaseFacts B newId initId bmB) (q : PySem.W.excIn X.K (ca c) bmB newId = true) (gC : X.mg x = some (.ref (ca c))) (kC : PySem.W.keepIn X.K (.ref (ca c)) = true) (r : RaisesK X.K (.ref (ca c))) (hg : Gl X x)
    (hdb : (x == ("__debug__" : Str)) = false := by decide) : PS X (.Raise (some (.Call (.Name x p) [.Constant (.str m) j p2] [] apos)) none pos) (RSx ca C W (.raise c [] .nil)) :=
  (ps_raise hc tk (pmk_own Fx q gC kC (raises_own r.1 r.2) hg hdb)).imp fun D σ H => by
    rintro ⟨φ, G, O, ρ, T, t, h⟩
    rw [denS, denA] at h
    exact h σ φ G H none Fut.refl t (.inl ⟨rfl, rfl⟩)
def PcX (ca : Nat → Addr) (φ : List Addr) (G : Hp) (O : Cs) (r : R U) (Q : VK) (E : XK) : Prop := match r with
  | .ok u T => Pc ca rU φ G O (.ok u T) Q
  | .exc c fs T => ∀ φ' G' H' d, Fut φ G φ' G' → Sd ca φ' G' H' (O ++ T) → XF G' d fs → E (.ref (ca c)) d H'
  | .fail => False
/-- what a def promises that may raise -/
def spX (ca : Nat → Addr) (call : Cs → Nat → List U → Cs → R U) (f np : Nat) : Sp := fun vs H Q E => ∃ φ G O T us, us.length = np ∧ Sd ca φ G H (O ++ T) ∧ RpUs G φ vs us ∧ PcX ca φ G O (call O f us T) Q E
theorem PcX.later {r : R U} {Q : VK} {E : XK} (f : Fut φ G φ' G') (h : PcX ca φ G O r Q E) : PcX ca φ' G' O r Q E := by
  cases r with
  | ok u T => exact fun b φ2 G2 H2 f2 s r => h b φ2 G2 H2 (f.trans f2) s r
  | exc c fs T => exact fun φ2 G2 H2 d f2 t x => h φ2 G2 H2 d (f.trans f2) t x
  | fail => exact h
theorem callPx_ok {f : Nat} {vs : List V} {us : List U} {np : Nat} {Q : VK} {E : XK} (hn : us.length = np) (h : PcX ca φ0 G0 O (callP C O f us T) Q E) (ff : Fut φ0 G0 φ G) (s : Sd ca φ G H (O ++ T)) (r : RpUs G φ vs us) : spX ca C.call f np vs H Q E := by
  cases e : C.call (O ++ T) f us [] with
  | fail =>
    unfold callP at h
    rw [e] at h
    exact h.elim
  | exc c fs T' =>
    have ec : callP C O f us T = .exc c fs T := by unfold callP; rw [e]
    rw [ec] at h
    refine ⟨φ, G, O ++ T, [], us, hn, by rw [List.append_nil]; exact s, r, ?_⟩
    rw [e]
    intro φ' G' H' d f1 s1 x
    have h := PcX.later ff h
    exact h φ G' H' d ⟨fun _ _ z => z, f1.ex⟩ (Sd.drop s f1 s1) x
  | ok u T' =>
    have hno : ∀ c fs T2, callP C O f us T ≠ .exc c fs T2 := fun c fs T2 => by
      unfold callP
      rw [e]
      cases u with
      | d x => exact fun z => nomatch z
      | tup us => exact fun z => nomatch z
      | ref i =>
        simp only
        split
        · split <;> exact fun z => nomatch z
        · exact fun z => nomatch z
    have h2 : Pc ca rU φ0 G0 O (callP C O f us T) Q := by
      cases e2 : callP C O f us T with
      | ok u2 T2 => rw [e2] at h; exact h
      | exc c fs T2 => exact absurd e2 (hno c fs T2)
      | fail => rw [e2] at h; exact h
    obtain ⟨φ1, G1, O1, T1, us1, a1, a2, a3, a4⟩ := callP_ok (np := np) (E := E) hn h2 ff s r
    refine ⟨φ1, G1, O1, T1, us1, a1, a2, a3, ?_⟩
    cases e3 : C.call O1 f us1 T1 with
    | ok u2 T2 => rw [e3] at a4; exact a4
    | exc => rw [e3] at a4; exact a4.elim
    | fail => rw [e3] at a4; exact a4
theorem callLx_ok {f : Nat} {vs : List V} {us : List U} {np : Nat} {Q : VK} {E : XK} (hn : us.length = np) (h : PcX ca φ0 G0 O (C.call O f us T) Q E) (ff : Fut φ0 G0 φ G) (s : Sd ca φ G H (O ++ T)) (r : RpUs G φ vs us) : spX ca C.call f np vs H Q E :=
  ⟨φ, G, O, T, us, hn, s, r, PcX.later ff h⟩
/-- a call that may raise, its value kept in a slot or not -/
theorem to_xcall {g : Option Nat} {l : Bool} {f np : Nat} {Q : VK} (hlen : ∀ O us T, us.length ≠ np → C.call O f us T = .fail) (t : At ca φ G H O T σ ρ) (h : PFx ca φ G O (denS C O (.xcall g l f as) ρ T) D W)
    (hQ : ∀ v u T' φ' G' H', Fut φ G φ' G' → Sd ca φ' G' H' (O ++ T') → RpU G' φ' v u → PF ca φ' G' O (match (generalizing := false) g with | some i => .nx (ρ.set i (some u)) T' | none => .nx ρ T') D → Q v H') : tCallS (spX ca C.call f np) (WE W) (RA ca C as) σ H Q := by
  refine ⟨φ, G, O, ρ, T, t, ?_⟩
  rw [denS] at h
  cases ea : denA C O ρ as T with
  | exc => rw [ea] at h; exact h
  | fail => rw [ea] at h; exact h
  | ok us T1 =>
    rw [ea] at h
    simp only at h
    intro vs φ1 G1 H1 f1 s1 r1
    have r1 : RpUs G1 φ1 vs us := r1
    have h := PFx.later f1 h
    by_cases hn : us.length = np
    · have key : PcX ca φ1 G1 O (if l = true then C.call O f us T1 else callP C O f us T1) Q (WE W σ) := by
        cases er : (if l = true then C.call O f us T1 else callP C O f us T1) with
        | fail => rw [er] at h; exact h
        | exc c fs T2 =>
          rw [er] at h
          exact fun φ2 G2 H2 d f2 s2 x => h σ φ2 G2 H2 d f2 ⟨s2, (f1.trans f2).lo t.l, t.n⟩ x
        | ok u T2 =>
          rw [er] at h
          intro v φ2 G2 H2 f2 s2 r2
          refine hQ v u T2 φ2 G2 H2 (f1.trans f2) s2 r2 ?_
          cases g with
          | none => exact PF.later f2 h
          | some i => exact PF.later f2 h
      cases l with
      | true => rw [if_pos rfl] at key; exact callLx_ok hn key Fut.refl s1 r1
      | false => rw [if_neg Bool.false_ne_true] at key; exact callPx_ok hn key Fut.refl s1 r1
    · have e0 : (if l = true then C.call O f us T1 else callP C O f us T1) = .fail := by
        cases l with
        | true => rw [if_pos rfl]; exact hlen _ _ _ hn
        | false =>
          rw [if_neg Bool.false_ne_true]
          unfold callP
          rw [hlen _ _ _ hn]
      rw [e0] at h
      exact h.elim
end
/-- a def that may raise, by its name -/
structure CalX (P : Program) (w : World) (K : PySem.W.Frag) (mg : Str → Option Value) (base : Heap) (ca : Nat → Addr) (call : Cs → Nat → List U → Cs → R U) (n j np : Nat) (x : Str) : Prop where
  ex : ∃ (f : Addr) (fd : FuncData) (ps : List Str), FnOk P w K mg base (L2.CX P w) n f fd ps (spX ca call j np) ∧ mg x = some (.ref f) ∧ PySem.W.keepIn K (.ref f) = true ∧ Binds K fd ps []
  len : ∀ O us T, us.length ≠ np → call O j us T = .fail
section
variable {ca : Nat → Addr} {X : Cx} {C : Cn} {W : WX} {pos p apos cpos tpos : Pos} {e tg : Expr} {as : CA} {es : List Expr} {N : List Str} {sc : Scope} {vm tm : List Bool} {n j np : Nat} {x y : Str}
theorem x_callE (g : Cg X.nox N sc vm tm n) (tk : Takes X W) {l : Bool} (F : CalX X.prog X.w X.K X.mg X.base ca C.call n j np x) (ha : PA X.nox (e :: es) (RA ca C as)) (hg : sc.names.lookup x = some .globalImplicit := by rfl) (hdb : (x == ("__debug__" : Str)) = false := by decide)
    (he : starEach (e :: es) X.env = (false, eval e X.env) :: starEach es X.env := by rfl) (hpl : (backTo pos (starEach es X.env)).any (·.1) = false := by rfl) (hs : swapsWith (.Call (.Name x p) (e :: es) [] pos) none cpos.line X.env = pure false := by rfl) :
    PS X (.Expr (.Call (.Name x p) (e :: es) [] pos) cpos) (RSx ca C W (.xcall none l j as)) := by
  obtain ⟨f, fd, ps, h1, h2, h3, h4⟩ := F.ex
  refine (ps_expr (pe_callS h1 g.room (show Gl X x from gl_of (X := X.nox) g hg) h2 h3 h4 (fun σ => passAt tk σ) ha.nox hdb he hpl) hs).imp fun D σ H => ?_
  rintro ⟨φ, G, O, ρ, T, t, h⟩
  exact to_xcall F.len t h fun v u T' φ' G' H' f s r q => q σ φ' G' H' Fut.refl ⟨s, f.lo t.l, t.n⟩
theorem x_callA (g : Cg X.nox N sc vm tm n) (tk : Takes X W) {l : Bool} (F : CalX X.prog X.w X.K X.mg X.base ca C.call n j np x) (ha : PA X.nox (e :: es) (RA ca C as)) (i : Nat) (hN : N[i]? = some y := by rfl) (hv : tm[i]? = some true := by rfl) (hg : sc.names.lookup x = some .globalImplicit := by rfl) (hdb : (x == ("__debug__" : Str)) = false := by decide)
    (he : starEach (e :: es) X.env = (false, eval e X.env) :: starEach es X.env := by rfl) (hpl : (backTo pos (starEach es X.env)).any (·.1) = false := by rfl) (hs : swapsWithSole [.Name y tpos] (.Call (.Name x p) (e :: es) [] pos) cpos.line X.env = pure false := by rfl) (hw : swappedStores [.Name y tpos] (.Call (.Name x p) (e :: es) [] pos) X.env = pure none := by rfl) (hm : (assignEach [.Name y tpos] X.env).map (·.2) = [assign (.Name y tpos) X.env] := by rfl) :
    PS X (.Assign [.Name y tpos] (.Call (.Name x p) (e :: es) [] pos) cpos) (RSx ca C W (.xcall (some i) l j as)) := by
  obtain ⟨f, fd, ps, h1, h2, h3, h4⟩ := F.ex
  refine (ps_asg (pe_callS h1 g.room (show Gl X x from gl_of (X := X.nox) g hg) h2 h3 h4 (fun σ => passAt tk σ) ha.nox hdb he hpl) (g_nm (ca := ca) g i hN hv).nox hs hw hm).imp fun D σ H => ?_
  rintro ⟨φ, G, O, ρ, T, t, h⟩
  exact to_xcall F.len t h fun v u T' φ' G' H' f s r q => ⟨φ', G', O, ρ, T', u, ⟨s, f.lo t.l, t.n⟩, r, fun σ' t' _ => q σ' φ' G' H' Fut.refl t'⟩
theorem x_for (g : Cg X.nox N sc vm tm n) (hp : PassesOwn (model X.prog X.w) X.A X.env X.xe) {b : List Stmt} {q : Tg} {it : IT} {cb : CB} (hi : PI X.nox tg e (RI ca C it)) (hg : PG X.nox tg (RG ca q)) (hb : PSs X b (RBx ca C W cb)) (hs : ∀ x, foldedSetIterable e X.env x = pure x := by intro _; rfl) : PS X (.For tg e b [] pos) (RSx ca C W (.for_ q it cb)) :=
  x_fo hp g.calm hi.nox hg.nox hb hs
end
section
variable {P : Program} {w : World} {K : PySem.W.Frag} {mg : Str → Option Value} {base : Heap} {ca : Nat → Addr} {φ : List Addr} {Gh : Hp}
/-- a def that may raise keeps its promise -/
theorem def_okX {x qual : Str} {st : Stmt} {f : Addr} {fd : FuncData} {N ps : List Str} {sc : Scope} {vm : List Bool} {G : Pg} {j np ns n : Nat} {b : CB} (F : Fun K x qual st f fd) (hsc : defScope st = sc) (S : FnScope N ps sc) (hG : G.defs j = some ⟨np, ns, b⟩) (hps : ps.length = np) (hns : N.length = ns)
    (hn : decide N.Nodup = true) (hv : visAll N sc vm = true) (ht : tgtAll N sc vm = true)
    (hb : ∀ (X : Cx) (W : WX), X.prog = P → X.w = w → X.K = K → X.mg = mg → X.base = base → Cg X.nox N sc vm vm (2 * n + 2) → Takes X W → PassesOwn (model X.prog X.w) X.A X.env X.xe → PSs X (defBody st) (RBx ca (cn G n) W b)) : FnOk P w K mg base (L2.CX P w) (2 * n + 3) f fd ps (spX ca (run G (n + 1)) j np) := by
  subst hsc
  refine F.okX S (fun vs H Q E h => ?_) (fun cdv A outer s H vs Q E hr h => ⟨_, hb _ (fun cls d _ H => E cls d H) rfl rfl rfl rfl rfl (Cg.ofDef (H := H) (E := E) hn hv ht hr) (takes_of rfl rfl rfl rfl) (passes_of rfl), ?_⟩)
  · obtain ⟨φ, G0, O, T, us, hl, s, r, q⟩ := h
    rw [r.length, hl, hps]
  · obtain ⟨φ, G0, O, T, us, hl, s, r, q⟩ := h
    rw [run, hG] at q
    have q : PcX ca φ G0 O (if us.length = np then match denB (cn G n) O b (us.map some ++ List.replicate (ns - us.length) none) T with
    | .nx _ T' => .ok (.d .none) T'
    | .rt u T' => .ok u T'
    | .exc c fs _ T' => .exc c fs T'
    | _ => .fail else .fail) Q E := q
    rw [if_pos hl] at q
    refine ⟨φ, G0, O, us.map some ++ List.replicate (ns - us.length) none, T, ⟨s, ?_, ?_⟩, ?_⟩
    · show Lo G0 φ (vs.map some ++ List.replicate (N.length - vs.length) none) _
      rw [hns, r.length]
      exact start_lo _ r
    · show (vs.map some ++ List.replicate (N.length - vs.length) none).length = _
      simp [hns, r.length]
    · cases e : denB (cn G n) O b (us.map some ++ List.replicate (ns - us.length) none) T with
      | nx ρ T' =>
        rw [e] at q
        exact fun σ φ' G' H' f t => q .non φ' G' H' f t.s (.d .non)
      | rt u T' =>
        rw [e] at q
        exact fun v φ' G' H' f s r => q v φ' G' H' f s r
      | bk ρ T' => rw [e] at q; exact q.elim
      | ct ρ T' => rw [e] at q; exact q.elim
      | exc c fs ρ T' =>
        rw [e] at q
        exact fun σ φ' G' H' d f t x => q φ' G' H' d f t.s x
      | fail => rw [e] at q; exact q.elim
theorem def_0X {kl : Nat} {f : Addr} {fd : FuncData} {ps : List Str} {G : Pg} {j np : Nat} : FnOk P w K mg base (L2.CX P w) kl f fd ps (spX ca (run G 0) j np) where
  len := by
    rintro vs H Q E ⟨φ, G0, O, T, us, hl, s, r, q⟩
    exact q.elim
  run := by
    rintro A outer s H args us vs Q E hr e0 hb hv ⟨φ, G0, O, T, us, hl, s, r, q⟩
    exact q.elim
end
end Y

set_option Elab.async false
set_option linter.all false
set_option maxRecDepth 100000
set_option maxHeartbeats 3200000
namespace Y
open PySem PySem.Spec PyProof.Rows L2
theorem xO_own {a C x : Addr} {d : Option Addr} : xO a C d ≠ .own x := fun z => by
  have z' : HO.ext _ = HO.own x := z
  cases z'
theorem xO_ok {P : Program} {w : World} {H : Hp} {h : Heap} {a C : Addr} {d : Option Addr} (x : ∃ oe, h.get? a = some oe ∧ oe.cls = .ref C ∧ oe.dict = d ∧ ∃ vs, oe.data = .fields vs) : ObjOk P w H h a (xO a C d) :=
  ⟨x, by obtain ⟨oe, e, _⟩ := x; exact ⟨oe, e⟩, fun h1 h2 z k => by
    obtain ⟨oe, e, r⟩ := z
    exact ⟨oe, k _ e, r⟩⟩
theorem xO_at {P : Program} {w : World} {H : Hp} {h : Heap} {a C : Addr} {d : Option Addr} (hok : HOk P w H h) (e : H a = some (xO a C d)) : ∃ oe, h.get? a = some oe ∧ oe.cls = .ref C ∧ oe.dict = d ∧ ∃ vs, oe.data = .fields vs := by
  have x : ObjOk P w H h a (.ext fun h => ∃ oe, h.get? a = some oe ∧ oe.cls = .ref C ∧ oe.dict = d ∧ ∃ vs, oe.data = .fields vs) := hok a _ e
  exact x.1
section
variable {X : Cx} {pins : List (Addr × Obj)} {σ : L2.St} {H : Hp} {sI s' : Shared} {B : Heap} {a C : Addr} {d : Option Addr}
/-- back on the ground, the exception's object known -/
theorem landedT (I : Inv X pins σ H sI) (nb : ∀ b o, sI.heap.get? b = some o → b ∉ frs X.stack → B.get? b = some o) (st : B.StaysIn s'.heap) (up : sI.heap.UpToSlots s'.heap) (os : s'.os = sI.os) (ag : AllBare s'.gens)
    (na : H a = none) (ns : sI.heap.get? a = none) (hx : ∃ oe, s'.heap.get? a = some oe ∧ oe.cls = .ref C ∧ oe.dict = d ∧ ∃ vs, oe.data = .fields vs) : Inv X pins σ (upd H a (xO a C d)) s' := by
  have nf : ∀ b ∈ frs X.stack, ∀ o, sI.heap.get? b = some o → ∃ sl, s'.heap.get? b = some { o with slots := sl } := fun b hb o e => by
    obtain ⟨_, o', e', hd⟩ := I.stack.mem hb
    rw [e] at e'; cases e'
    exact up b o e hd
  have nea : ∀ b o, sI.heap.get? b = some o → b ≠ a := fun b o e z => by
    rw [z, ns] at e
    cases e
  have hok : HOk X.prog X.w (upd H a (xO a C d)) s'.heap := fun b o q => by
    by_cases e : b = a
    · subst e
      rw [upd_same] at q
      cases q
      exact xO_ok hx
    · rw [upd_ne e] at q
      exact (((I.inGround nb).kept st) b o q).stay (fun _ _ _ r => r) (fun c hc => by rw [upd_ne (ne_of_none hc na)]; exact hc) fun c xs hc => by rw [upd_ne (ne_of_none hc na)]; exact hc
  have J := I.call (ch := []) (h' := s'.heap) (g' := s'.gens) (t' := s'.toks) (d' := s'.drawn) (H' := upd H a (xO a C d))
    ⟨fun b o e _ hb _ => st b o (nb b o e hb), fun b o e _ hb _ => nf b hb o e, fun b o e n _ => by rw [upd_ne (nea b o e)]; exact n, fun b o e _ => by
      by_cases hb : b ∈ frs X.stack
      · obtain ⟨sl, q⟩ := nf b hb o e
        exact ⟨_, q⟩
      · exact ⟨o, st b o (nb b o e hb)⟩, fun b xs e => by rw [upd_ne (ne_of_none e na)]; exact e, fun b o u e => by rw [upd_ne (ne_of_none e na)]; exact e, fun b ps e => ⟨#[], by rw [upd_ne (ne_of_none e na), e]; simp⟩⟩
    hok ag (fun _ z => nomatch z)
  obtain ⟨a1, a2, a3, a4, a5⟩ := s'
  have e5 : a5 = sI.os := os
  subst e5
  exact J
theorem suiteT (I : Inv X pins σ H s') : Inv (X.suite a (X.pn ++ pins)) [] σ H s' :=
  ⟨I.ok.suite _ _, I.os, I.bare, I.base, I.loc, I.cell, I.free, I.freeC, fun p hp => I.pin p (by rw [List.append_nil] at hp; exact hp), I.hok, I.len⟩
theorem unsuiteT {pn' : List (Addr × Obj)} (I : Inv (X.suite a (X.pn ++ pins)) pn' σ H s') (ok : X.Ok) : Inv X pins σ H s' :=
  ⟨ok, I.os, I.bare, I.base, I.loc, I.cell, I.free, I.freeC, fun p hp => I.pin p (List.mem_append_left _ hp), I.hok, I.len⟩
end
/-- what the clause 'except x as n' wishes of an exception of the body -/
def wAsT (K : PySem.W.Frag) (c : Value) (i : Nat) (ts : TS) (Wout : WX) (D : Ends) : WX := fun cls d σ H =>
  ∃ b, PySem.W.exmOne K cls c = some b ∧ (b = true → ∃ C, cls = .ref C ∧ ∀ a, H a = none → ts { nx := fun σ' H' => D.nx (σ'.set i none) H', rt := D.rt, bk := fun σ' H' => D.bk (σ'.set i none) H', ct := fun σ' H' => D.ct (σ'.set i none) H' } (σ.set i (some (.ref a))) (upd H a (xO a C d))) ∧
    (b = false → Wout cls d σ H)
section
variable {X : Cx} {x n : Str} {c : Value} {i : Nat} {body suite : List Stmt} {b₀ : Stmt} {np pos pos' : Pos} {tb : WX → TS} {ts : TS} {Wout : WX}
theorem ps_try_asT (hs : X.stack = X.env :: X.outer) (hf : X.env.frame = some X.env.locals) (hN : X.N.Nodup) (hi : X.N[i]? = some n) (hln : X.env.kindOf n = some .local) (hc : Names X x c) (tk : Takes X Wout)
    (hb : ∀ (W : WX) (pn : List (Addr × Obj)) (xe : Value → Shared → Prop), Takes (X.tr pn xe) W → PassesOwn (model X.prog X.w) X.A X.env xe → PSs (X.tr pn xe) body (tb W))
    (hsu : ∀ (a : Addr) (pn : List (Addr × Obj)), PSs (X.suite a pn) (b₀ :: suite) ts) :
    PS X (.Try body [.ExceptHandler (some (.Name x np)) (some n) (b₀ :: suite) pos'] [] [] pos) (fun D σ H => tb (wAsT X.K c i ts Wout D) D σ H) := by
  refine ⟨fun pins s σ H D I h => ?_⟩
  have ok := I.ok
  have hfr : X.A.frames = some (X.env :: X.outer) := by rw [ok.frames, hs]
  have hloc : Loc X.env.scope n := .inl hln
  refine wpAny_Try_except ?_
  refine wpAny_mono ((hb (wAsT X.K c i ts Wout D) (X.pn ++ pins) (fun e s₁ => wpAny (model X.prog X.w) X.A (noteFrame e X.env) (fun _ s₂ => wpAny (model X.prog X.w) X.A (setFlight e none) (fun _ s₃ =>
    wpAny (model X.prog X.w) X.A (handleBy e X.env [.ExceptHandler (some (.Name x np)) (some n) (b₀ :: suite) pos']) (SP X pins D) X.xe s₃) X.xe s₂) X.xe s₁) (fun u s' xx => ?_) PassesOwn.looking).run [] s σ H D (I.toTry _) h) (fun f s1 hsp => ?_) (fun e s1 he => he)
  · -- the catch
    obtain ⟨a, B, sI, pins', σ', H', cls, d, rfl, J', nb, up, sky, na, os, ag, b, hb1, hyes, hno⟩ := xx
    have J : Inv X pins σ' H' sI := J'.ofTry ok
    have sky' : Sky B (X.env :: X.outer) a (Zc cls d) X.env.locals s'.heap := by rw [← hs]; exact sky
    show wpAny (model X.prog X.w) X.A (noteFrame (.ref a) X.env) _ _ _
    refine Sky.land Zc.steady hfr hf sky' fun h3 fl3 up3 => ?_
    have J3 : Inv X pins σ' H' { s' with heap := h3 } := J.landed nb fl3.1 (up.trans up3) os ag
    obtain ⟨oe3, vs3, he3, hz3, hd3⟩ := fl3.there
    have notFr : ∀ {h : Heap} {o : Obj} {vs : Array Value}, h.FunFrames B (X.env :: X.outer) → h.get? a = some o → o.data = .fields vs → a ∉ frs (X.env :: X.outer) := fun {h o vs} ff e dd hm => by
      obtain ⟨_, o', e', hnf⟩ := ff.mem hm
      rw [e] at e'; cases e'
      exact hnf _ dd
    have nfr := notFr fl3.2.2.1 he3 hd3
    have nsI : sI.heap.get? a = none := by
      cases e : sI.heap.get? a with
      | none => rfl
      | some o =>
        have z := nb a o e (by rw [hs]; exact nfr)
        rw [fl3.2.1] at z
        cases z
    have S3 : Inv (X.suite a (X.pn ++ pins)) [] σ' H' { s' with heap := h3 } := suiteT J3
    refine wpAny_handleBy_cons (codeAny_handlers_test ?_) (by intro q; cases q)
    have LT : PySem.W.Looks (model X.prog X.w) h3 (typeOf (.ref a)) cls := fun A Q E s k q => wpAny_typeOf_ref (k _ _ he3) (by rw [hz3.1]; exact q)
    have LM := PySem.W.exm_one (M := model X.prog X.w) (J3.kIn) LT hb1
    have test : ∀ {Q : Value → Shared → Prop} {E : Value → Shared → Prop}, Q c { s' with heap := h3 } → wpAny (model X.prog X.w) (X.A.mark (some (.ref a))) (eval (.Name x np) X.env) Q E { s' with heap := h3 } := fun {Q E} q => by
      obtain ⟨hg, hdbg, hm | ⟨hm, hv, hnn⟩⟩ := hc
      · exact ld_glob (X := X.suite a (X.pn ++ pins)) S3 hg hm q hdbg
      · exact ld_blt (X := X.suite a (X.pn ++ pins)) S3 hg hm hv q hnn hdbg
    refine test (LM.here ?_)
    cases b with
    | true =>
      refine codeAny_handlers_suite_as ?_
      refine HandSPX.lands_againZ fl3 fun h4 fl4 up4 => ?_
      obtain ⟨oe4, vs4, he4, hz4, hd4⟩ := fl4.there
      obtain ⟨CC, ecls, hy⟩ := hyes rfl
      subst ecls
      have J4 : Inv X pins σ' (upd H' a (xO a CC d)) { s' with heap := h4 } := landedT J nb fl4.1 ((up.trans up3).trans up4) os ag na nsI ⟨oe4, he4, hz4.1, hz4.2, vs4, hd4⟩
      have S4 : Inv (X.suite a (X.pn ++ pins)) [] σ' (upd H' a (xO a CC d)) { s' with heap := h4 } := suiteT J4
      refine store_ok (X := X.suite a (X.pn ++ pins)) (v := .ref a) S4 hN hi hloc rfl (fun s5 S5 => ?_) (.inr hln)
      refine wpAny_mono ((hsu a (X.pn ++ pins)).run [] s5 _ _ _ S5 (hy a na)) (fun f s6 hsp => ?_) (fun _ _ z => False.elim z)
      have end_ : ∀ {σ6 : L2.St} {H6 : Hp} {Q : Shared → Prop}, Inv (X.suite a (X.pn ++ pins)) [] σ6 H6 s6 → (∀ s7, Inv X pins (σ6.set i none) H6 s7 → Q s7) →
          wpAny (model X.prog X.w) X.A (do bindName X.env n .none; unbindBehindTheSuite X.env n pos') (fun _ s7 => Q s7) X.xe s6 := fun {σ6 H6 Q} S6 hq => gone_ok (unsuiteT S6 ok) hN hi hln hq
      cases f with
      | next =>
        obtain ⟨σ6, H6, S6, q6⟩ := hsp
        exact end_ S6 fun s7 J7 => ⟨_, _, J7, q6⟩
      | brk =>
        obtain ⟨σ6, H6, S6, q6⟩ := hsp
        exact end_ S6 fun s7 J7 => ⟨_, _, J7, q6⟩
      | cont =>
        obtain ⟨σ6, H6, S6, q6⟩ := hsp
        exact end_ S6 fun s7 J7 => ⟨_, _, J7, q6⟩
      | ret u =>
        obtain ⟨v6, σ6, H6, S6, r6, q6⟩ := hsp
        exact end_ S6 fun s7 J7 => ⟨_, _, _, J7, r6, q6⟩
    | false =>
      show wpAny _ X.A (handleBy (.ref a) X.env []) _ _ _
      refine wpAny_handleBy_nil ?_
      obtain ⟨k1, k2, k3, oe, vs, T, oT, ts', he, hz, hd, h1, hr⟩ := id fl3
      unfold PySem.passOn
      refine wpAny_bind (wpAny_field he hd h1 ?_)
      rw [if_neg (show ¬ ((Value.ref T == Value.none) = true) from by simp)]
      have fin : wpAny (model X.prog X.w) X.A (setFlight (.ref a) X.env.frame) (fun _ s4 => wpAny (model X.prog X.w) X.A (throw (.ref a) : Sem Flow) (SP X pins D) X.xe s4) X.xe { s' with heap := h3 } := by
        rw [hf]
        refine HandSPX.setFlight_upZ fl3 fun h4 hh4 up4 => wpAny_throw (tk _ _ ?_)
        exact ⟨a, B, sI, pins, σ', H', cls, d, rfl, J, nb, (up.trans up3).trans up4, .inr (.inr (by rw [hs]; exact hh4)), na, os, ag, hno rfl⟩
      first
        | exact wpAny_bind (wpAny_pure (wpAny_bind fin))
        | exact wpAny_bind fin
  · cases f with
    | next =>
      obtain ⟨σ', H', J', q⟩ := hsp
      exact wpAny_execs_nil ⟨σ', H', J'.ofTry ok, q⟩
    | brk =>
      obtain ⟨σ', H', J', q⟩ := hsp
      exact ⟨σ', H', J'.ofTry ok, q⟩
    | cont =>
      obtain ⟨σ', H', J', q⟩ := hsp
      exact ⟨σ', H', J'.ofTry ok, q⟩
    | ret u =>
      obtain ⟨v, σ', H', J', r, q⟩ := hsp
      exact ⟨v, σ', H', J'.ofTry ok, r, q⟩
end
section
variable {ca : Nat → Addr} {φ φ' φ0 : List Addr} {G G' G0 H : Hp} {O T : Cs} {S : Cs} {X : Cx} {K : PySem.W.Frag} {C : Cn} {σ : L2.St} {ρ : Rho} {D : Ends} {W : WX} {pos p apos cpos tpos : Pos} {e : Expr} {ea : CE} {es : List Expr}
/-- a cell for a thing that is known for ever -/
theorem Sd.cellAdd (s : Sd ca φ G H S) {q : Addr} {o : HO} {c : Cell} (hq : G q = some o) (hn : ∀ (i : Nat) (a : Addr), φ[i]? = some a → a ≠ q) (hc : CellOk ca G (φ ++ [q]) H q c) (hl : ¬ live c) : Sd ca (φ ++ [q]) G H (S ++ [c]) := by
  refine ⟨by simp [s.len], ?_, s.ex, fun i a c h1 h2 h3 => ?_, fun i a h => ?_, fun i a c h1 h2 => ?_⟩
  · rw [List.nodup_append]
    refine ⟨s.nd, by simp, fun a ha b hb => ?_⟩
    simp at hb
    subst hb
    obtain ⟨i, hi⟩ := List.getElem?_of_mem ha
    exact hn i a hi
  · rcases get_append_last h1 with h1 | ⟨e, rfl⟩
    · rcases get_append_last h2 with h2 | ⟨e, rfl⟩
      · exact s.off i a c h1 h2 h3
      · exact absurd h3 hl
    · rcases get_append_last h2 with h2 | ⟨e2, rfl⟩
      · have := (List.getElem?_eq_some_iff.mp h2).1; rw [← s.len] at this; omega
      · exact absurd h3 hl
  · rcases get_append_last h with h1 | ⟨e, rfl⟩
    · exact s.kn i a h1
    · exact ⟨_, s.ex _ _ hq⟩
  · rcases get_append_last h1 with h1 | ⟨e, rfl⟩
    · rcases get_append_last h2 with h2 | ⟨e, rfl⟩
      · exact (s.cell i a c h1 h2).mono ⟨pre_append φ [q], Ex.refl G⟩ rfl
      · have := (List.getElem?_eq_some_iff.mp h1).1; rw [s.len] at this; omega
    · rcases get_append_last h2 with h2 | ⟨e2, rfl⟩
      · have := (List.getElem?_eq_some_iff.mp h2).1; rw [← s.len] at this; omega
      · exact hc
theorem At.setN (t : At ca φ G H O T σ ρ) (i : Nat) : At ca φ G H O T (σ.set i none) (ρ.set i none) := by
  refine ⟨t.s, fun j w h => ?_, by simp [t.n]⟩
  by_cases e : i = j
  · subst e
    by_cases lt : i < ρ.length
    · rw [List.getElem?_set_self lt] at h
      cases h
    · rw [List.getElem?_eq_none (by simpa using lt)] at h
      cases h
  · rw [List.getElem?_set_ne e] at h
    obtain ⟨v', h1, h2⟩ := t.l j w h
    exact ⟨v', by rw [List.getElem?_set_ne e]; exact h1, h2⟩
/-- try: .. except x as n: .. -/
theorem s_try {x n : Str} {c : Value} {i : Nat} {body suite : List Stmt} {b₀ : Stmt} {np pos' : Pos} {ks : List Nat} {cb cs : CB} (hs : X.stack = X.env :: X.outer) (hf : X.env.frame = some X.env.locals) (hN : X.N.Nodup) (hi : X.N[i]? = some n) (hln : X.env.kindOf n = some .local) (hc : Names X x c)
    (hks : ∀ k ∈ ks, PySem.W.exmOne X.K (.ref (ca k)) c = some true)
    (hb : ∀ (W : WX) (pn : List (Addr × Obj)) (xe : Value → Shared → Prop), Takes (X.tr pn xe) W → PassesOwn (model X.prog X.w) X.A X.env xe → PSs (X.tr pn xe) body (RBx ca C W cb))
    (hsu : ∀ (a : Addr) (pn : List (Addr × Obj)), PSs (X.suite a pn) (b₀ :: suite) (RBl ca C cs)) :
    PS X (.Try body [.ExceptHandler (some (.Name x np)) (some n) (b₀ :: suite) pos'] [] [] pos) (RS ca C (.try_ cb ks (some i) cs)) := (ps_try_asT hs hf hN hi hln hc takes0 hb hsu).imp fun D σ H => by
  rintro ⟨φ, G, O, ρ, T, t, h⟩
  refine ⟨φ, G, O, ρ, T, t, ?_⟩
  rw [denS] at h
  cases e : denB C O cb ρ T with
  | nx ρ' T' => rw [e] at h; exact h
  | rt u T' => rw [e] at h; exact h
  | bk ρ T => rw [e] at h; exact h
  | ct ρ T => rw [e] at h; exact h
  | fail => rw [e] at h; exact h
  | exc k fs ρ' T' =>
    rw [e] at h
    intro σ1 φ1 G1 H1 d f1 t1 x1
    have h : PF ca φ G O (if k ∈ ks then (match denB C O cs (ρ'.set i (some (.ref (O.length + T'.length)))) (T' ++ [.exn k fs]) with
          | .nx ρ2 T2 => .nx (ρ2.set i none) T2
          | .rt u T2 => .rt u T2
          | _ => .fail) else .fail) D := h
    by_cases hk : k ∈ ks
    · rw [if_pos hk] at h
      refine ⟨true, hks k hk, fun _ => ⟨ca k, rfl, fun a na => ?_⟩, fun z => nomatch z⟩
      have s2 := t1.s.know (o := xO a (ca k) d) na
      have F2 : Fut φ1 G1 φ1 (upd G1 a (xO a (ca k) d)) := t1.s.knowF na
      have ne : ∀ (i : Nat) (b : Addr), φ1[i]? = some b → b ≠ a := fun i b hb => by
        obtain ⟨o', h'⟩ := t1.s.kn i b hb
        exact ne_of_none h' na
      have s3 := s2.cellAdd (c := .exn k fs) upd_same ne ⟨d, upd_same, x1.mono F2.ex⟩ id
      have F3 : Fut φ1 G1 (φ1 ++ [a]) (upd G1 a (xO a (ca k) d)) := F2.trans Sd.newF
      have hn : (φ1 ++ [a])[O.length + T'.length]? = some a := by
        have hl := t1.s.len
        rw [List.length_append] at hl
        rw [← hl, List.getElem?_append_right (Nat.le_refl _)]
        simp
      have t3 : At ca (φ1 ++ [a]) (upd G1 a (xO a (ca k) d)) (upd H1 a (xO a (ca k) d)) O (T' ++ [.exn k fs]) σ1 ρ' := ⟨by rw [← List.append_assoc]; exact s3, F3.lo t1.l, t1.n⟩
      refine ⟨_, _, O, _, _, t3.set (.ref hn) i, ?_⟩
      cases e2 : denB C O cs (ρ'.set i (some (.ref (O.length + T'.length)))) (T' ++ [.exn k fs]) with
      | nx ρ2 T2 =>
        rw [e2] at h
        exact fun σ' φ' G' H' f t' => h _ φ' G' H' ((f1.trans F3).trans f) (t'.setN i)
      | rt u T2 =>
        rw [e2] at h
        exact fun v φ' G' H' f s r => h v φ' G' H' ((f1.trans F3).trans f) s r
      | bk ρ T => rw [e2] at h; exact h.elim
      | ct ρ T => rw [e2] at h; exact h.elim
      | exc => rw [e2] at h; exact h.elim
      | fail => rw [e2] at h; exact h.elim
    · rw [if_neg hk] at h
      exact h.elim
/-- try: .. except x: .. -/
theorem s_tryN {x : Str} {c : Value} {body suite : List Stmt} {b₀ : Stmt} {np pos' : Pos} {ks : List Nat} {cb cs : CB} (hs : X.stack = X.env :: X.outer) (hf : X.env.frame = some X.env.locals) (hc : Names X x c)
    (hks : ∀ k ∈ ks, PySem.W.exmOne X.K (.ref (ca k)) c = some true)
    (hb : ∀ (W : WX) (pn : List (Addr × Obj)) (xe : Value → Shared → Prop), Takes (X.tr pn xe) W → PassesOwn (model X.prog X.w) X.A X.env xe → PSs (X.tr pn xe) body (RBx ca C W cb))
    (hsu : ∀ (a : Addr) (pn : List (Addr × Obj)), PSs (X.suite a pn) (b₀ :: suite) (RBl ca C cs)) :
    PS X (.Try body [.ExceptHandler (some (.Name x np)) none (b₀ :: suite) pos'] [] [] pos) (RS ca C (.try_ cb ks none cs)) := (ps_try_only (ts := fun _ _ _ => RBl ca C cs) hs hf hc takes0 hb (fun a oe cls d pn _ _ => hsu a _)).imp fun D σ H => by
  rintro ⟨φ, G, O, ρ, T, t, h⟩
  refine ⟨φ, G, O, ρ, T, t, ?_⟩
  rw [denS] at h
  cases e : denB C O cb ρ T with
  | nx ρ' T' => rw [e] at h; exact h
  | rt u T' => rw [e] at h; exact h
  | bk ρ T => rw [e] at h; exact h
  | ct ρ T => rw [e] at h; exact h
  | fail => rw [e] at h; exact h
  | exc k fs ρ' T' =>
    rw [e] at h
    intro σ1 φ1 G1 H1 d f1 t1 x1
    have h : PF ca φ G O (if k ∈ ks then (match denB C O cs ρ' T' with
          | .nx ρ2 T2 => .nx ρ2 T2
          | .rt u T2 => .rt u T2
          | _ => .fail) else .fail) D := h
    by_cases hk : k ∈ ks
    · rw [if_pos hk] at h
      refine ⟨true, hks k hk, fun _ a na => ?_, fun z => nomatch z⟩
      refine ⟨_, _, O, _, _, t1, ?_⟩
      cases e2 : denB C O cs ρ' T' with
      | nx ρ2 T2 =>
        rw [e2] at h
        exact fun σ' φ' G' H' f t' => h _ φ' G' H' (f1.trans f) t'
      | rt u T2 =>
        rw [e2] at h
        exact fun v φ' G' H' f s r => h v φ' G' H' (f1.trans f) s r
      | bk ρ T => rw [e2] at h; exact h.elim
      | ct ρ T => rw [e2] at h; exact h.elim
      | exc => rw [e2] at h; exact h.elim
      | fail => rw [e2] at h; exact h.elim
    · rw [if_neg hk] at h
      exact h.elim
end
end Y

set_option Elab.async false
set_option linter.all false
set_option maxRecDepth 100000
set_option maxHeartbeats 3200000
namespace Y
open PySem PySem.Spec PyProof.Rows L2
/-- the object of an exception, with its dict -/
theorem xO_inst {P : Program} {w : World} {H : Hp} {h : Heap} {a C : Addr} {d : Option Addr} (hok : HOk P w H h) (e : H a = some (xO a C d)) (hd : d = none ∨ ∃ dx ws, d = some dx ∧ H dx = some (.xd ws)) : ∃ oe od, PySem.W.InstAt h a oe C od ∧ oe.dict = d ∧ (∀ dx, d = some dx → ∃ o, od = some o ∧ h.get? dx = some o) := by
  obtain ⟨oe, e1, e2, e3, vs, e4⟩ := xO_at hok e
  have nc : PySem.W.notCls oe := by unfold PySem.W.notCls; rw [e4] <;> rfl
  rcases hd with rfl | ⟨dx, ws, rfl, h2⟩
  · exact ⟨oe, none, ⟨e1, e2, nc, by rw [e3]; trivial⟩, e3, fun dx z => nomatch z⟩
  · obtain ⟨mA, hns, hr⟩ := hok dx _ h2
    obtain ⟨od, ho, hl⟩ := lookIn_ns hns
    exact ⟨oe, some od, ⟨e1, e2, nc, by rw [e3]; exact ho⟩, e3, fun dx z => by cases z; exact ⟨od, rfl, ho⟩⟩
/-- isinstance(e, c) -/
def rIsX (K : PySem.W.Frag) : List V → Hp → VK → Prop := fun xs H Q => ∃ (a C : Addr) (d : Option Addr) (c : V) (cv : Value) (b : Bool), xs = [.ref a, c] ∧ (∀ u, RelV c u → u = cv) ∧ H a = some (xO a C d) ∧ (d = none ∨ ∃ dx ws, d = some dx ∧ H dx = some (.xd ws)) ∧ ExcC K C ∧ PySem.W.kitOne K (.ref C) cv = some b ∧ Q (.bl b) H
/-- isinstance(e, (c, ..)) -/
def rIsXT (K : PySem.W.Frag) : List V → Hp → VK → Prop := fun xs H Q => ∃ (a C tp : Addr) (d : Option Addr) (cs : List V) (cvs : List Value) (b : Bool), xs = [.ref a, .ref tp] ∧ H tp = some (.tup cs) ∧ (∀ us, Vals cs us → us = cvs) ∧ H a = some (xO a C d) ∧ (d = none ∨ ∃ dx ws, d = some dx ∧ H dx = some (.xd ws)) ∧ ExcC K C ∧ PySem.W.kitAny K (.ref C) cvs = some b ∧ Q (.bl b) H
theorem excC_cls {K : PySem.W.Frag} {C : Addr} (c : ExcC K C) : (PySem.W.clsIn K C).isSome = true := by
  obtain ⟨cd, hc, _⟩ := PySem.W.any_some c.hd
  rw [hc]
  rfl
section
variable {X : Cx}
theorem cr_isX : CallR X (.builtin "isinstance") (rIsX X.K) := by
  intro pins s σ H xs us Q I r h
  obtain ⟨a, C, d, c, cv, b, rfl, hcv, ha, hd, cc, e, q⟩ := h
  cases r with
  | cons rx rr =>
    cases rr with
    | cons rt rr =>
      cases rr
      cases rx
      have ec := hcv _ rt
      subst ec
      obtain ⟨oe, od, J, _, _⟩ := xO_inst I.hok ha hd
      exact PySem.W.kia_one (PySem.W.kitx_exc (od := od) (excC_cls cc) cc.hg cc.hk cc.hs cc.ha cc.hn cc.ht cc.hm) I.kIn J e (fun z => nomatch z) fun tk => ⟨.bl b, H, I.kept (t' := tk) fun _ _ z => z, rfl, q⟩
theorem cr_isXT : CallR X (.builtin "isinstance") (rIsXT X.K) := by
  intro pins s σ H xs us Q I r h
  obtain ⟨a, C, tp, d, cs, cvs, b, rfl, ht, hcv, ha, hd, cc, e, q⟩ := h
  cases r with
  | cons rx rr =>
    cases rr with
    | cons rt rr =>
      cases rr
      cases rx
      cases rt
      obtain ⟨oe, od, J, _, _⟩ := xO_inst I.hok ha hd
      obtain ⟨z, its, rv, ob, e1, e2⟩ := I.hok tp _ ht
      have ei := hcv _ rv
      subst ei
      obtain ⟨oc, odd, oda, osl⟩ := ob
      obtain ⟨h1, n, h2⟩ := e2
      dsimp only at h1 h2
      subst h1
      subst h2
      exact PySem.W.kia_tup (PySem.W.kitx_exc (od := od) (excC_cls cc) cc.hg cc.hk cc.hs cc.ha cc.hn cc.ht cc.hm) I.kIn J e1 e (fun z => nomatch z) fun tk => ⟨.bl b, H, I.kept (t' := tk) fun _ _ z => z, rfl, q⟩
end
/-- values that stand in the text -/
def tVals (cs : List V) : TA := fun _ H Q => Q cs H
theorem pa_vals0 {X : Cx} : PA X [] (tVals []) := pa_nil
theorem pa_valsC {X : Cx} {e : Expr} {es : List Expr} {c : V} {cs : List V} (h : PE X e (tC c)) (hr : PA X es (tVals cs)) (hs : starEach (e :: es) X.env = (false, eval e X.env) :: starEach es X.env := by rfl) : PA X (e :: es) (tVals (c :: cs)) := pa_cons h hr hs
/-- e.n, e an exception that is known -/
def tXfT (K : PySem.W.Frag) (n : Str) (te : TE) : TE := fun σ H Q => te σ H fun x H1 => ∃ (a C dd : Addr) (fs : List (Str × V)) (v : V), x = .ref a ∧ H1 a = some (xO a C (some dd)) ∧ XfC K C ∧ PySem.W.findIn K (.ref C) n = some none ∧ H1 dd = some (.xd fs) ∧ fs.lookup n = some v ∧ Q v H1
theorem pe_xfT {X : Cx} {e : Expr} {te : TE} {pos : Pos} {n : Str} (he : PE X e te) (hb : attributeBase e n X.env (eval e X.env) = eval e X.env := by rfl) : PE X (.Attribute e n pos) (tXfT X.K n te) := by
  refine ⟨fun pins s σ H Q I h => ?_⟩
  refine attr_of hb (thn (he.run pins s σ H _ I h) fun u s1 hh => ?_)
  obtain ⟨x, H1, I1, rx, a, C, dd, fs, v, ex, ha, T, hno, hd, l, q⟩ := hh
  subst ex
  obtain rfl : u = Value.ref a := rx
  obtain ⟨oe, od, J, _, hod⟩ := xO_inst I1.hok ha (.inr ⟨dd, fs, rfl, hd⟩)
  obtain ⟨o, rfl, ho⟩ := hod dd rfl
  have hx : ObjOk X.prog X.w H1 s1.heap dd (.xd fs) := I1.hok dd _ hd
  obtain ⟨mA, hns, hr⟩ := hx
  obtain ⟨od', ho', hl⟩ := lookIn_ns hns
  rw [ho] at ho'
  cases ho'
  obtain ⟨u, hu, ru⟩ := RelO.some_of (v := v) (o := mA n) (by rw [← l]; exact hr n)
  exact HandSPX.exc_get I1.kIn J T.ga T.gg T.exC (PySem.W.findObj_own T.hdC hno rfl (by rw [hl, hu])) (handed_of ru) ⟨v, H1, I1.tok _, ru, q⟩
section
variable {ca : Nat → Addr} {φ φ' : List Addr} {G G' H : Hp} {O T : Cs} {X : Cx} {K : PySem.W.Frag} {C : Cn} {σ : L2.St} {ρ : Rho} {pos p p2 : Pos} {e : Expr} {ea : CE} {es : List Expr} {yes no : List Nat} {l : Bool}
theorem exn_at (s : Sd ca φ G H (O ++ T)) {i k : Nat} {v : V} {fs : List (Str × Y.D)} (r : RpU G φ v (.ref i)) (e : getC O T i = some (.exn k fs)) : ∃ a d, v = .ref a ∧ H a = some (xO a (ca k) d) ∧ (d = none ∨ ∃ dx ws, d = some dx ∧ H dx = some (.xd ws)) ∧ XF G d fs := by
  cases r with
  | ref hi =>
    obtain ⟨d, h1, h2⟩ := cell_at s hi e
    refine ⟨_, d, rfl, s.ex _ _ h1, ?_, h2⟩
    rcases h2 with ⟨_, h⟩ | ⟨dx, ws, h3, h4, _⟩
    · exact .inl h
    · exact .inr ⟨dx, ws, h3, s.ex _ _ h4⟩
theorem isexn_of {u : U} {Q : VK} (h : Pc ca rU φ G O (isexnB O T yes no u) Q) : ∃ i k fs b, u = .ref i ∧ getC O T i = some (.exn k fs) ∧ ((b = true ∧ k ∈ yes) ∨ (b = false ∧ k ∈ no)) ∧ Pc ca rU φ G O (.ok (.d (.bool b)) T) Q := by
  unfold isexnB at h
  cases u with
  | d x => exact h.elim
  | tup us => exact h.elim
  | ref i =>
    simp only at h
    cases e : getC O T i with
    | none => rw [e] at h; exact h.elim
    | some c =>
      rw [e] at h
      cases c with
      | exn k fs =>
        simp only at h
        by_cases hy : k ∈ yes
        · rw [if_pos hy] at h
          exact ⟨i, k, fs, true, rfl, e, .inl ⟨rfl, hy⟩, h⟩
        · rw [if_neg hy] at h
          by_cases hn : k ∈ no
          · rw [if_pos hn] at h
            exact ⟨i, k, fs, false, rfl, e, .inr ⟨rfl, hn⟩, h⟩
          · rw [if_neg hn] at h
            exact h.elim
      | lst => exact h.elim
      | lstU => exact h.elim
      | dct => exact h.elim
      | dctU => exact h.elim
      | ins => exact h.elim
      | dead => exact h.elim
theorem y_isx {x : Str} {v : V} {cv : Value} (hi : Gl X "isinstance") (hm : X.mg "isinstance" = none) (ha : PE X e (RE ca C ea)) (hx : PE X (.Name x p2) (tC v)) (hv : ∀ u, RelV v u → u = cv)
    (hy : ∀ k ∈ yes, ExcC X.K (ca k) ∧ PySem.W.kitOne X.K (.ref (ca k)) cv = some true) (hn : ∀ k ∈ no, ExcC X.K (ca k) ∧ PySem.W.kitOne X.K (.ref (ca k)) cv = some false)
    (he : starEach [e, .Name x p2] X.env = (false, eval e X.env) :: starEach [.Name x p2] X.env := by rfl) : PE X (.Call (.Name "isinstance" p) [e, .Name x p2] [] pos) (RE ca C (.bi l (.isexn yes no) (.cons ea .nil))) :=
  (pe_callB cr_isX hi hm bt_isinstance (pa_cons ha (pa_cons hx pa_nil rfl) he) (by decide) (by decide) he rfl).imp (by
    rintro σ H Q ⟨φ, G, O, ρ, T, tt, h⟩
    rw [den] at h
    simp only [denA, R.bind_bind, R.bind_ok] at h
    refine ⟨φ, G, O, ρ, T, tt, Pc.imp h.bind ?_⟩
    rintro w H1 ⟨φ1, G1, T1, u, f1, s1, r1, h1⟩
    obtain ⟨i, k, fs, b, rfl, ec, hb, h2⟩ := isexn_of h1
    obtain ⟨a, d, rfl, e1, e2, _⟩ := exn_at s1 r1 ec
    have kk : ExcC X.K (ca k) ∧ PySem.W.kitOne X.K (.ref (ca k)) cv = some b := by
      rcases hb with ⟨rfl, hk⟩ | ⟨rfl, hk⟩
      · exact hy k hk
      · exact hn k hk
    exact ⟨a, ca k, d, v, cv, b, rfl, hv, e1, e2, kk.1, kk.2, Pc.now h2 s1 (.d (.bl _))⟩)
theorem y_isxT {x1 : Nat} {cs : List V} {cvs : List Value} (hi : Gl X "isinstance") (hm : X.mg "isinstance" = none) (ha : PE X e (RE ca C ea)) (hx : PA X es (tVals cs)) (hv : ∀ us, Vals cs us → us = cvs) (hl : cs.length ≤ 100)
    (hy : ∀ k ∈ yes, ExcC X.K (ca k) ∧ PySem.W.kitAny X.K (.ref (ca k)) cvs = some true) (hn : ∀ k ∈ no, ExcC X.K (ca k) ∧ PySem.W.kitAny X.K (.ref (ca k)) cvs = some false)
    (he : starEach [e, .Tuple es x1 p2] X.env = (false, eval e X.env) :: starEach [.Tuple es x1 p2] X.env := by rfl) : PE X (.Call (.Name "isinstance" p) [e, .Tuple es x1 p2] [] pos) (RE ca C (.bi l (.isexn yes no) (.cons ea .nil))) :=
  (pe_callB cr_isXT hi hm bt_isinstance (pa_cons ha (pa_cons (pe_tup hx) pa_nil rfl) he) (by decide) (by decide) he rfl).imp (by
    rintro σ H Q ⟨φ, G, O, ρ, T, tt, h⟩
    rw [den] at h
    simp only [denA, R.bind_bind, R.bind_ok] at h
    refine ⟨φ, G, O, ρ, T, tt, Pc.imp h.bind ?_⟩
    rintro w H1 ⟨φ1, G1, T1, u, f1, s1, r1, h1⟩
    obtain ⟨i, k, fs, b, rfl, ec, hb, h2⟩ := isexn_of h1
    obtain ⟨a, d, rfl, e1, e2, _⟩ := exn_at s1 r1 ec
    have kk : ExcC X.K (ca k) ∧ PySem.W.kitAny X.K (.ref (ca k)) cvs = some b := by
      rcases hb with ⟨rfl, hk⟩ | ⟨rfl, hk⟩
      · exact hy k hk
      · exact hn k hk
    refine ⟨by rw [sizeLine_eq]; omega, fun tp ntp => ?_⟩
    refine ⟨a, ca k, tp, d, cs, cvs, b, rfl, upd_same, hv, by rw [upd_ne (ne_of_none e1 ntp)]; exact e1, ?_, kk.1, kk.2, Pc.now h2 (s1.grow ntp) (.d (.bl _))⟩
    rcases e2 with e2 | ⟨dx, ws, e2, e3⟩
    · exact .inl e2
    · exact .inr ⟨dx, ws, e2, by rw [upd_ne (ne_of_none e3 ntp)]; exact e3⟩)
theorem y_xfld {n : Str} {ks : List Nat} (ha : PE X e (RE ca C ea)) (hk : ∀ k ∈ ks, XfC X.K (ca k) ∧ PySem.W.findIn X.K (.ref (ca k)) n = some none) (hb : attributeBase e n X.env (eval e X.env) = eval e X.env := by rfl) : PE X (.Attribute e n pos) (RE ca C (.bi l (.xfld ks n) (.cons ea .nil))) :=
  (pe_xfT ha hb).imp (by
    rintro σ H Q ⟨φ, G, O, ρ, T, tt, h⟩
    rw [den] at h
    simp only [denA, R.bind_bind, R.bind_ok] at h
    refine ⟨φ, G, O, ρ, T, tt, Pc.imp h.bind ?_⟩
    rintro w H1 ⟨φ1, G1, T1, u, f1, s1, r1, h1⟩
    have h1 : Pc ca rU φ1 G1 O (xfldB O T1 ks n u) Q := h1
    unfold xfldB at h1
    cases u with
    | d x => exact h1.elim
    | tup us => exact h1.elim
    | ref i =>
      simp only at h1
      cases ec : getC O T1 i with
      | none => rw [ec] at h1; exact h1.elim
      | some c =>
        rw [ec] at h1
        cases c with
        | exn k fs =>
          simp only at h1
          by_cases hin : k ∈ ks
          · rw [if_pos hin] at h1
            obtain ⟨a, d, rfl, e1, e2, e3⟩ := exn_at s1 r1 ec
            cases el : fs.lookup n with
            | none => rw [el] at h1; exact h1.elim
            | some v =>
              rw [el] at h1
              rcases e3 with ⟨rfl, _⟩ | ⟨dx, ws, rfl, e4, e5⟩
              · cases el
              · have e6 : (fs.map fun p => ((p.1, U.d p.2) : Str × U)).lookup n = some (.d v) := by
                  clear e5 h1 ec
                  induction fs with
                  | nil => cases el
                  | cons p fs ih =>
                    obtain ⟨g, z⟩ := p
                    simp only [List.map_cons, List.lookup_cons] at el ⊢
                    cases q : n == g with
                    | true => rw [q] at el; cases el; rfl
                    | false => rw [q] at el; exact ih el
                rcases e5.look n with ⟨k1, _⟩ | ⟨u', v', k1, k2, k3⟩
                · rw [k1] at e6
                  cases e6
                · rw [k1] at e6
                  cases e6
                  cases k3 with
                  | d k3 =>
                    exact ⟨a, ca k, dx, ws, v', rfl, e1, (hk k hin).1, (hk k hin).2, s1.ex _ _ e4, k2, Pc.now h1 s1 (.d k3)⟩
          · rw [if_neg hin] at h1
            exact h1.elim
        | lst => exact h1.elim
        | lstU => exact h1.elim
        | dct => exact h1.elim
        | dctU => exact h1.elim
        | ins => exact h1.elim
        | dead => exact h1.elim)
end
structure Cgh (X : Cx) (N : List Str) (sc : Scope) (vm tm : List Bool) : Prop where
  hN : X.N = N
  hsc : X.env.scope = sc
  nd : N.Nodup
  hu : X.A.units + 65 < cLine
  vis : ∀ (i : Nat) (x : Str), vm[i]? = some true → N[i]? = some x → Vis sc x ∧ (x == ("__debug__" : Str)) = false ∧ (x == ("__classdict__" : Str)) = false
  tgt : ∀ (i : Nat) (x : Str), tm[i]? = some true → N[i]? = some x → Loc sc x ∧ (X.fn x = true ∨ sc.names.lookup x = some .local)
section
variable {ca : Nat → Addr} {X : Cx} {C : Cn} {W : WX} {pos p apos cpos tpos : Pos} {a b e tg : Expr} {ea eb : CE} {es : List Expr} {N : List Str} {sc : Scope} {vm tm : List Bool} {n : Nat} {x y : Str}
theorem Cg.hot (g : Cg X N sc vm tm n) (a : Addr) (pn : List (Addr × Obj)) : Cgh (X.suite a pn) N sc vm tm where
  hN := g.hN
  hsc := g.hsc
  nd := g.nd
  hu := g.hu
  vis := g.vis
  tgt := g.tgt
theorem Cg.tr (g : Cg X N sc vm tm n) (pn : List (Addr × Obj)) (xe : Value → Shared → Prop) : Cg (X.tr pn xe).nox N sc vm tm n where
  hN := g.hN
  hsc := g.hsc
  nd := g.nd
  calm := g.calm
  room := g.room
  never := fun _ _ h => h
  vis := g.vis
  tgt := g.tgt
theorem glh_of (g : Cgh X N sc vm tm) (h : sc.names.lookup x = some .globalImplicit) : Gl X x := by
  show X.env.scope.names.lookup x = _
  rw [g.hsc]
  exact h
theorem h_v (g : Cgh X N sc vm tm) (i : Nat) (hN : N[i]? = some x := by rfl) (hv : vm[i]? = some true := by rfl) : PE X (.Name x pos) (RE ca C (.v i)) :=
  have h := g.vis i x hv hN
  pe_v (g.hN ▸ hN) (g.hsc ▸ h.1) h.2.1 h.2.2
theorem h_nm (g : Cgh X N sc vm tm) (i : Nat) (hN : N[i]? = some x := by rfl) (hv : tm[i]? = some true := by rfl) : PG X (.Name x pos) (RG ca (.nm i)) :=
  have h := g.tgt i x hv hN
  pg_nm (g.hN ▸ g.nd) (g.hN ▸ hN) (g.hsc ▸ h.1) (g.hsc ▸ h.2)
theorem h_cm (g : Cgh X N sc vm tm) {o : COp} (ha : PE X a (RE ca C ea)) (hb : PE X b (RE ca C eb)) (hm : behindInMarks (copS o) b = false := by rfl) : PE X (.Compare a [copS o] [b] pos) (RE ca C (.cmp o ea eb)) := pe_cm (op_cmp o g.hu) ha hb hm
/-- the class that an except clause names -/
theorem h_names (hg : Gl X x) (hm : X.mg x = some (.ref c)) (hd : (x == ("__debug__" : Str)) = false := by decide) : Names X x (.ref c) := ⟨hg, hd, .inl hm⟩
theorem k_cls {c : Addr} (hg : Gl X x) (hm : X.mg x = some (.ref c)) (hd : (x == ("__debug__" : Str)) = false := by decide) : PE X (.Name x pos) (tC (.ref c)) := pe_glob hg hm rfl hd
theorem bt_ValueError : bootBuiltins "ValueError" = some (.type "ValueError") := by decide +kernel
theorem k_VE (hg : Gl X "ValueError") (hm : X.mg "ValueError" = none) : PE X (.Name "ValueError" pos) (tC (.ty "ValueError")) := pe_bltn hg hm bt_ValueError rfl (by decide) (by decide)
theorem rel_ref {c : Addr} : ∀ u, RelV (.ref c) u → u = .ref c := fun _ h => h
theorem rel_ty {s : String} : ∀ u, RelV (.ty s) u → u = .type s := fun _ h => h
theorem vals_0 : ∀ us, Vals [] us → us = [] := fun us h => by cases h; rfl
theorem vals_C {c : V} {cv : Value} {cs : List V} {cvs : List Value} (h : ∀ u, RelV c u → u = cv) (hr : ∀ us, Vals cs us → us = cvs) : ∀ us, Vals (c :: cs) us → us = cv :: cvs := fun us v => by
  cases v with
  | cons a b => rw [h _ a, hr _ b]
theorem all_0 {P : Nat → Prop} : ∀ k ∈ ([] : List Nat), P k := fun _ h => (List.not_mem_nil h).elim
theorem all_C {P : Nat → Prop} {a : Nat} {l : List Nat} (h : P a) (hr : ∀ k ∈ l, P k) : ∀ k ∈ a :: l, P k := fun k hk => by
  rcases List.mem_cons.mp hk with rfl | hk
  · exact h
  · exact hr k hk
theorem kita_0 {K : PySem.W.Frag} {t : Value} : PySem.W.kitAny K t [] = some false := rfl
theorem kita_t {K : PySem.W.Frag} {t c : Value} {r : List Value} (h : PySem.W.kitOne K t c = some true) : PySem.W.kitAny K t (c :: r) = some true := by
  unfold PySem.W.kitAny
  rw [h]
theorem kita_f {K : PySem.W.Frag} {t c : Value} {r : List Value} {b : Bool} (h : PySem.W.kitOne K t c = some false) (hr : PySem.W.kitAny K t r = some b) : PySem.W.kitAny K t (c :: r) = some b := by
  unfold PySem.W.kitAny
  rw [h]
  exact hr
theorem kit_same {K : PySem.W.Frag} {t : Value} : PySem.W.kitOne K t t = some true := by
  unfold PySem.W.kitOne
  rw [if_pos (beq_self_eq_true t)]
theorem kit_cls' {K : PySem.W.Frag} {t : Value} {c : Addr} {v : Bool} (h : PySem.W.subIn K t (.ref c) = some v) (hd : PySem.W.hasDictIn K c = true) (ht : PySem.W.typeIn K (.ref c) = some (.type "type")) : PySem.W.kitCls K t (.ref c) = some v := by
  obtain ⟨cd, hc, _⟩ := PySem.W.any_some hd
  have e2 : ((PySem.W.clsIn K c).isSome && PySem.W.typeIn K (.ref c) == some (.type "type")) = true := by rw [hc, ht] <;> rfl
  show (if ((PySem.W.clsIn K c).isSome && PySem.W.typeIn K (.ref c) == some (.type "type")) = true then PySem.W.subIn K t (.ref c) else none) = some v
  rw [if_pos e2]
  exact h
theorem kit_rt {K : PySem.W.Frag} {t : Value} {c : Addr} (h : PySem.W.subIn K t (.ref c) = some true) (hd : PySem.W.hasDictIn K c = true) (ht : PySem.W.typeIn K (.ref c) = some (.type "type")) : PySem.W.kitOne K t (.ref c) = some true := by
  unfold PySem.W.kitOne
  split
  · rfl
  · exact kit_cls' h hd ht
theorem kit_rf {K : PySem.W.Frag} {a c : Addr} (h : PySem.W.subIn K (.ref a) (.ref c) = some false) (hs : PySem.W.subIn K (.ref a) (.ref a) = some true) (hd : PySem.W.hasDictIn K c = true) (ht : PySem.W.typeIn K (.ref c) = some (.type "type")) : PySem.W.kitOne K (.ref a) (.ref c) = some false := by
  unfold PySem.W.kitOne
  split
  · rename_i e
    have e := eq_of_beq e
    rw [← e, hs] at h
    cases h
  · exact kit_cls' h hd ht
theorem kit_vt {K : PySem.W.Frag} {a : Addr} (h : PySem.W.subIn K (.ref a) (.type "ValueError") = some true) : PySem.W.kitOne K (.ref a) (.type "ValueError") = some true := by
  unfold PySem.W.kitOne
  split
  · rfl
  · show (if PySem.W.kitMeta "ValueError" = true then PySem.W.subIn K (.ref a) (.type "ValueError") else none) = _
    rw [if_pos (by decide +kernel)]
    exact h
theorem t_try (g : Cg X N sc vm tm n) {body suite : List Stmt} {b₀ : Stmt} {np pos' : Pos} {ks : List Nat} {cb cs : CB} {c : Addr} (hs : X.stack = X.env :: X.outer) (hf : X.env.frame = some X.env.locals) (i : Nat) (hm : X.mg x = some (.ref c))
    (hks : ∀ k ∈ ks, PySem.W.exmOne X.K (.ref (ca k)) (.ref c) = some true)
    (hb : ∀ (W : WX) (pn : List (Addr × Obj)) (xe : Value → Shared → Prop), Takes (X.tr pn xe) W → PassesOwn (model X.prog X.w) X.A X.env xe → PSs (X.tr pn xe) body (RBx ca C W cb))
    (hsu : ∀ (a : Addr) (pn : List (Addr × Obj)), PSs (X.suite a pn) (b₀ :: suite) (RBl ca C cs)) (hNi : N[i]? = some y := by rfl) (hl : sc.names.lookup y = some .local := by rfl) (hg : sc.names.lookup x = some .globalImplicit := by rfl) (hd : (x == ("__debug__" : Str)) = false := by decide) :
    PS X (.Try body [.ExceptHandler (some (.Name x np)) (some y) (b₀ :: suite) pos'] [] [] pos) (RS ca C (.try_ cb ks (some i) cs)) :=
  s_try hs hf (g.hN ▸ g.nd) (g.hN ▸ hNi) (by show X.env.scope.names.lookup y = _; rw [g.hsc]; exact hl) ⟨gl_of g hg, hd, .inl hm⟩ hks hb hsu
theorem t_tryN (g : Cg X N sc vm tm n) {body suite : List Stmt} {b₀ : Stmt} {np pos' : Pos} {ks : List Nat} {cb cs : CB} {c : Addr} (hs : X.stack = X.env :: X.outer) (hf : X.env.frame = some X.env.locals) (hm : X.mg x = some (.ref c))
    (hks : ∀ k ∈ ks, PySem.W.exmOne X.K (.ref (ca k)) (.ref c) = some true)
    (hb : ∀ (W : WX) (pn : List (Addr × Obj)) (xe : Value → Shared → Prop), Takes (X.tr pn xe) W → PassesOwn (model X.prog X.w) X.A X.env xe → PSs (X.tr pn xe) body (RBx ca C W cb))
    (hsu : ∀ (a : Addr) (pn : List (Addr × Obj)), PSs (X.suite a pn) (b₀ :: suite) (RBl ca C cs)) (hg : sc.names.lookup x = some .globalImplicit := by rfl) (hd : (x == ("__debug__" : Str)) = false := by decide) :
    PS X (.Try body [.ExceptHandler (some (.Name x np)) none (b₀ :: suite) pos'] [] [] pos) (RS ca C (.try_ cb ks none cs)) :=
  s_tryN hs hf ⟨gl_of g hg, hd, .inl hm⟩ hks hb hsu
end
section
variable {P : Program} {w : World} {K : PySem.W.Frag} {mg : Str → Option Value} {base : Heap} {ca : Nat → Addr}
/-- a def that has try within keeps its promise -/
theorem def_okT {x qual : Str} {st : Stmt} {f : Addr} {fd : FuncData} {N ps : List Str} {sc : Scope} {vm : List Bool} {G : Pg} {j np ns n : Nat} {b : CB} (F : Fun K x qual st f fd) (hsc : defScope st = sc) (S : FnScope N ps sc) (hG : G.defs j = some ⟨np, ns, b⟩) (hps : ps.length = np) (hns : N.length = ns)
    (hn : decide N.Nodup = true) (hv : visAll N sc vm = true) (ht : tgtAll N sc vm = true)
    (hb : ∀ X : Cx, X.prog = P → X.w = w → X.K = K → X.mg = mg → X.base = base → X.stack = X.env :: X.outer → X.env.frame = some X.env.locals → Cg X N sc vm vm (2 * n + 2) → PSs X (defBody st) (RBl ca (cn G n) b)) : FnOk P w K mg base CX0 (2 * n + 3) f fd ps (spR ca (run G (n + 1)) j np) := by
  subst hsc
  refine F.ok S (fun vs H Q E h => ?_) (fun cdv A outer s H vs Q E hr h => ⟨_, hb _ rfl rfl rfl rfl rfl rfl rfl (Cg.ofDef hn hv ht hr), ?_⟩)
  · obtain ⟨φ, G0, O, T, us, hl, s, r, q⟩ := h
    rw [r.length, hl, hps]
  · obtain ⟨φ, G0, O, T, us, hl, s, r, q⟩ := h
    rw [run, hG] at q
    have q : Pc ca rU φ G0 O (if us.length = np then match denB (cn G n) O b (us.map some ++ List.replicate (ns - us.length) none) T with
    | .nx _ T' => .ok (.d .none) T'
    | .rt u T' => .ok u T'
    | .exc c fs _ T' => .exc c fs T'
    | _ => .fail else .fail) Q := q
    rw [if_pos hl] at q
    refine ⟨φ, G0, O, us.map some ++ List.replicate (ns - us.length) none, T, ⟨s, ?_, ?_⟩, ?_⟩
    · show Lo G0 φ (vs.map some ++ List.replicate (N.length - vs.length) none) _
      rw [hns, r.length]
      exact start_lo _ r
    · show (vs.map some ++ List.replicate (N.length - vs.length) none).length = _
      simp [hns, r.length]
    · cases e : denB (cn G n) O b (us.map some ++ List.replicate (ns - us.length) none) T with
      | nx ρ T' =>
        rw [e] at q
        exact fun σ φ' G' H' f t => q .non φ' G' H' f t.s (.d .non)
      | rt u T' =>
        rw [e] at q
        exact fun v φ' G' H' f s r => q v φ' G' H' f s r
      | bk ρ T' => rw [e] at q; exact q.elim
      | ct ρ T' => rw [e] at q; exact q.elim
      | exc => rw [e] at q; exact q.elim
      | fail => rw [e] at q; exact q.elim
end
end Y

set_option Elab.async false
set_option linter.all false
set_option maxRecDepth 100000
set_option maxHeartbeats 3200000
namespace Y
open PySem PySem.Spec PyProof.Rows L2
section
variable {X : Cx} {pos p p1 p2 : Pos} {e : Expr} {es : List Expr} {ta : TA}
/-- D.__init__(self, ..), D an own class that has ValueError's -/
theorem pe_cinit {x0 : Str} {C0 : Addr} {mc : Value} {pl : Sem Bool} (hg : Gl X x0) (hm : X.mg x0 = some (.ref C0)) (rd : PySem.W.readsIn X.K C0 mc = true) (ga : PySem.W.specialIn X.K (.ref C0) "__getattribute__" = some (some (.builtin "type.__getattribute__")))
    (vV : PySem.W.findCls X.K (.ref C0) mc "__init__" = some (.val (.builtin "ValueError.__init__"))) (ha : PA X (e :: es) ta) (hdb : (x0 == ("__debug__" : Str)) = false := by decide)
    (hc : eval (.Call (.Attribute (.Name x0 p1) "__init__" p2) (e :: es) [] pos) X.env = (do
      let ov ← eval (.Name x0 p1) X.env
      standAt p2.atName
      let (f, first) ← holding [ov] (getMethod ov "__init__" pl)
      callWith pos f first (backTo pos (starEach (e :: es) X.env)) (backToKw pos (keywordEach [] X.env))) := by rfl)
    (he : starEach (e :: es) X.env = (false, eval e X.env) :: starEach es X.env := by rfl) (hpl : (backTo pos (starEach es X.env)).any (·.1) = false := by rfl) :
    PE X (.Call (.Attribute (.Name x0 p1) "__init__" p2) (e :: es) [] pos) (tVeI X.K ta) := by
  refine ⟨fun pins s σ H Q I h => ?_⟩
  refine PySem.W.methodCall_KW (ld_glob I hg hm ?_ hdb) hc
  refine PySem.W.method_cls I.kIn ga (PySem.W.cls_value I.kIn rd vV rfl ?_)
  show wpAny _ _ (callWith pos (Value.builtin "ValueError.__init__") [] (backTo pos (starEach (e :: es) X.env)) []) _ _ _
  refine PyProof.Rows.callWith_method1 (thn (ha.run pos pins _ σ H _ (I.tok _) h) fun us s1 ⟨vs, H1, I1, r1, a, C, ws, ev, hl, T, ea, q⟩ => ?_) he hpl
  subst ev
  cases r1 with
  | @cons _ u0 _ ur ra rw' =>
    obtain rfl : u0 = Value.ref a := ra
    have hlen : ur.length ≤ sizeLine := by
      rw [← Paired.length rw', sizeLine_eq]
      omega
    exact oinit_ok T I1 ea hlen fun s' J => ⟨.non, H1, J, rfl, q⟩
end
/-- what an exception's own __init__ promises -/
def spI (K : PySem.W.Frag) (C : Addr) (ns : List Str) : Sp := fun vs H Q _ => ∃ (a : Addr) (ys : List V), vs = .ref a :: ys ∧ ys.length = ns.length ∧ H a = some (exo a C none) ∧
  ∀ dx, H dx = none → dx ≠ a → Q .non (upd (upd H dx (exd dx (ns.zip ys).reverse)) a (exo a C (some dx)))
section
variable {P : Program} {w : World} {K : PySem.W.Frag} {mg : Str → Option Value} {base : Heap}
def tI1 (K : PySem.W.Frag) (m f : Str) : TS := tSeq (tDrop (tVeI K (tCons (tVar 0) (tCons (tC (.str m)) tNil)))) (tSeq (tOst K f (tVar 0) (tVar 1)) tNext)
def tI2 (K : PySem.W.Frag) (m f g : Str) : TS := tSeq (tDrop (tVeI K (tCons (tVar 0) (tCons (tC (.str m)) tNil)))) (tSeq (tOst K f (tVar 0) (tVar 1)) (tSeq (tOst K g (tVar 0) (tVar 2)) tNext))
theorem ini_ok1 {x qual m f1 a0 a1 : Str} {st : Stmt} {f C : Addr} {fd : FuncData} {sc : Scope} (F : Fun K x qual st f fd) (hsc : defScope st = sc) (S : FnScope [a0, a1] [a0, a1] sc) (T : OexC K C) (hf : PySem.W.findIn K (.ref C) f1 = some none)
    (hb : ∀ X : Cx, X.prog = P → X.w = w → X.K = K → X.mg = mg → X.base = base → X.N = [a0, a1] → X.env.scope = sc → PSs X (defBody st) (tI1 X.K m f1)) : FnOk P w K mg base CX0 1 f fd [a0, a1] (spI K C [f1]) := by
  subst hsc
  refine F.ok S (fun vs H Q E h => ?_) (fun cdv A outer s H vs Q E hr h => ⟨_, hb _ rfl rfl rfl rfl rfl rfl rfl, ?_⟩)
  · obtain ⟨a, ys, rfl, hl, _⟩ := h
    simp [hl]
  · obtain ⟨a, ys, rfl, hl, ha, q⟩ := h
    match ys, hl with
    | [y], _ =>
      refine ⟨_, rfl, a, C, [.str m], rfl, by simp, T, ha, ?_⟩
      refine ⟨y, rfl, _, rfl, a, C, rfl, T, hf, .inl ⟨ha, fun dx h1 h2 => ?_⟩⟩
      exact q dx h1 h2
theorem ini_ok2 {x qual m f1 f2 a0 a1 a2 : Str} {st : Stmt} {f C : Addr} {fd : FuncData} {sc : Scope} (F : Fun K x qual st f fd) (hsc : defScope st = sc) (S : FnScope [a0, a1, a2] [a0, a1, a2] sc) (T : OexC K C) (hf : PySem.W.findIn K (.ref C) f1 = some none) (hg : PySem.W.findIn K (.ref C) f2 = some none)
    (hb : ∀ X : Cx, X.prog = P → X.w = w → X.K = K → X.mg = mg → X.base = base → X.N = [a0, a1, a2] → X.env.scope = sc → PSs X (defBody st) (tI2 X.K m f1 f2)) : FnOk P w K mg base CX0 1 f fd [a0, a1, a2] (spI K C [f1, f2]) := by
  subst hsc
  refine F.ok S (fun vs H Q E h => ?_) (fun cdv A outer s H vs Q E hr h => ⟨_, hb _ rfl rfl rfl rfl rfl rfl rfl, ?_⟩)
  · obtain ⟨a, ys, rfl, hl, _⟩ := h
    simp [hl]
  · obtain ⟨a, ys, rfl, hl, ha, q⟩ := h
    match ys, hl with
    | [y, z], _ =>
      refine ⟨_, rfl, a, C, [.str m], rfl, by simp, T, ha, ?_⟩
      refine ⟨y, rfl, _, rfl, a, C, rfl, T, hf, .inl ⟨ha, fun dx h1 h2 => ?_⟩⟩
      refine ⟨z, rfl, _, rfl, a, C, rfl, T, hg, .inr ⟨dx, [(f1, y)], upd_same, by rw [upd_ne h2, upd_same], by simp, ?_⟩⟩
      have e : upd (upd (upd H dx (exd dx [(f1, y)])) a (exo a C (some dx))) dx (exd dx [(f2, z), (f1, y)]) = upd (upd H dx (exd dx [(f2, z), (f1, y)])) a (exo a C (some dx)) := by
        funext b
        by_cases h3 : b = dx
        · subst h3
          rw [upd_same, upd_ne h2, upd_same]
        · rw [upd_ne h3]
          by_cases h4 : b = a
          · subst h4
            rw [upd_same, upd_same]
          · rw [upd_ne h4, upd_ne h3, upd_ne h4, upd_ne h3]
      show Q .non (upd (upd (upd H dx (exd dx [(f1, y)])) a (exo a C (some dx))) dx (exd dx [(f2, z), (f1, y)]))
      rw [e]
      exact q dx h1 h2
end
/-- raise X(e, ..), by X's name -/
structure IniX (P : Program) (w : World) (K : PySem.W.Frag) (mg : Str → Option Value) (base : Heap) (ca : Nat → Addr) (c : Nat) (x : Str) (ns : List Str) : Prop where
  ex : ∃ (fI : Addr) (fd : FuncData) (ps : List Str), OexC K (ca c) ∧ PySem.W.findIn K (.ref (ca c)) "__init__" = some (some (.ref fI)) ∧ PySem.W.typeIn K (.ref fI) = some (.type "function") ∧
    FnOk P w K mg base CX0 1 fI fd ps (spI K (ca c) ns) ∧ Binds K fd ps [] ∧ mg x = some (.ref (ca c))
theorem rpF_zip {G : Hp} : ∀ (ns : List Str) {vs : List V} {ds : List Y.D}, Rps G vs ds → RpF G [] (ns.zip vs) ((ns.zip ds).map fun p => (p.1, U.d p.2))
  | [], _, _, _ => .nil
  | n :: ns, _, _, .nil => .nil
  | n :: ns, _, _, .cons h t => .cons (.d h) (rpF_zip ns t)
theorem rpF_app {G : Hp} : ∀ {a b : List (Str × V)} {c d : List (Str × U)}, RpF G [] a c → RpF G [] b d → RpF G [] (a ++ b) (c ++ d)
  | _, _, _, _, .nil, h => h
  | _, _, _, _, .cons h t, q => .cons h (rpF_app t q)
theorem rpF_rev {G : Hp} : ∀ {a : List (Str × V)} {c : List (Str × U)}, RpF G [] a c → RpF G [] a.reverse c.reverse
  | _, _, .nil => .nil
  | _, _, .cons (k := k) (v := v) (u := u) (ws := ws) (fs := fs) h t => by
    rw [List.reverse_cons, List.reverse_cons]
    exact rpF_app (rpF_rev t) (.cons h .nil)
section
variable {ca : Nat → Addr} {X : Cx} {C : Cn} {W : WX} {pos p apos : Pos} {e : Expr} {as : CA} {es : List Expr} {c k n : Nat} {x : Str} {ns : List Str}
theorem x_raiseI (hc : X.calm = true) (tk : Takes X W) (F : IniX X.prog X.w X.K X.mg X.base ca c x ns) (hr : Room 2 X.A) (hg : Gl X x) (hns : ns ≠ []) (hnl : ns.length ≤ 100) (ha : PA X.nox (e :: es) (RA ca C as))
    (hdb : (x == ("__debug__" : Str)) = false := by decide) (he : starEach (e :: es) X.env = (false, eval e X.env) :: starEach es X.env := by rfl) (hpl : (backTo apos (starEach es X.env)).any (·.1) = false := by rfl) :
    PS X (.Raise (some (.Call (.Name x p) (e :: es) [] apos)) none pos) (RSx ca C W (.raise c ns as)) := by
  obtain ⟨fI, fd, ps, T, iC, tI, F1, hb, hm⟩ := F.ex
  refine (ps_raise hc tk (pmk_oex (dvs := []) T iC tI F1 hr hb .nil pass0 hg hm ha.nox hdb he hpl)).imp fun D σ H => ?_
  rintro ⟨φ, G, O, ρ, T, t, h⟩
  rw [denS] at h
  refine ⟨φ, G, O, ρ, T, t, ?_⟩
  cases ea : denA C O ρ as T with
  | exc => rw [ea] at h; exact h
  | fail => rw [ea] at h; exact h
  | ok us T1 =>
    rw [ea] at h
    simp only at h
    intro vs φ1 G1 H1 f1 s1 r1
    have r1 : RpUs G1 φ1 vs us := r1
    cases ed : allD us with
    | none => rw [ed] at h; exact h.elim
    | some ds =>
      rw [ed] at h
      simp only at h
      by_cases hl : ds.length = ns.length
      · rw [if_pos hl] at h
        have hds := r1.down ed
        have hvl : vs.length = ns.length := by rw [r1.length, allD_of ed, List.length_map, hl]
        refine ⟨by omega, fun a na => ⟨a, vs ++ [], rfl, by simpa using hvl, upd_same, fun dx h1 h2 => ⟨rfl, dx, (ns.zip vs).reverse, upd_same, ?_, ?_, ?_⟩⟩⟩
        · rw [List.append_nil, upd_ne h2, upd_same]
        · rw [upd_ne h2] at h1
          exact h1
        · have h1' : H1 dx = none := by rw [upd_ne h2] at h1; exact h1
          rw [List.append_nil]
          have eH : upd (del (upd (upd (upd H1 a (exo a (ca c) none)) dx (exd dx (ns.zip vs).reverse)) a (exo a (ca c) (some dx))) a) dx (.xd (ns.zip vs).reverse) = upd H1 dx (.xd (ns.zip vs).reverse) := by
            funext b
            by_cases q1 : b = dx
            · subst q1
              rw [upd_same, upd_same]
            · rw [upd_ne q1, upd_ne q1]
              by_cases q2 : b = a
              · subst q2
                rw [del_same, na]
              · rw [del_ne q2, upd_ne q2, upd_ne q1, upd_ne q2]
          rw [eH]
          refine h σ φ1 (upd G1 dx (.xd (ns.zip vs).reverse)) _ (some dx) (f1.trans (s1.knowF h1')) ⟨s1.know h1', (f1.trans (s1.knowF h1')).lo t.l, t.n⟩ (.inr ⟨dx, _, rfl, upd_same, ?_⟩)
          rw [List.map_reverse]
          exact rpF_rev (rpF_zip ns (Rps.mono (s1.knowF h1').ex _ _ hds))
      · rw [if_neg hl] at h
        exact h.elim
end
end Y

set_option Elab.async false
set_option linter.all false
set_option maxRecDepth 100000
set_option maxHeartbeats 3200000
namespace Y
open PySem
namespace S
def Wpx (r : F) (nx bk ct : Rho → Cs → Prop) (rt : U → Cs → Prop) (ex : Nat → List (Str × D) → Cs → Prop) : Prop := match r with
  | .exc c fs _ T => ex c fs T
  | r => Wp r nx bk ct rt
/-- what a call gives that may raise -/
def Gx (r : R U) (P : U → Cs → Prop) (ex : Nat → List (Str × D) → Cs → Prop) : Prop := match r with
  | .ok u T => P u T
  | .exc c fs T => ex c fs T
  | .fail => False
section
variable {C : Cn} {O T T' : Cs} {ρ : Rho} {nx bk ct : Rho → Cs → Prop} {rt : U → Cs → Prop} {ex : Nat → List (Str × D) → Cs → Prop} {b : CB} {u : U}
theorem wpx_of {r : F} (h : Wp r nx bk ct rt) : Wpx r nx bk ct rt ex := by
  cases r <;> first | exact h | exact h.elim
theorem wpx_mono {r : F} {nx' bk' ct' : Rho → Cs → Prop} {rt' : U → Cs → Prop} {ex' : Nat → List (Str × D) → Cs → Prop} (h : Wpx r nx bk ct rt ex) (h1 : ∀ ρ T, nx ρ T → nx' ρ T) (h2 : ∀ ρ T, bk ρ T → bk' ρ T) (h3 : ∀ ρ T, ct ρ T → ct' ρ T) (h4 : ∀ u T, rt u T → rt' u T) (h5 : ∀ c fs T, ex c fs T → ex' c fs T) : Wpx r nx' bk' ct' rt' ex' := by
  cases r with
  | nx ρ T => exact h1 _ _ h
  | rt u T => exact h4 _ _ h
  | bk ρ T => exact h2 _ _ h
  | ct ρ T => exact h3 _ _ h
  | exc c fs ρ T => exact h5 _ _ _ h
  | fail => exact h
/-- a statement that raises nothing -/
theorem xt_st {s : CS} (h : Wp (denS C O s ρ T) (fun ρ T => Wpx (denB C O b ρ T) nx bk ct rt ex) bk ct rt) : Wpx (denB C O (.cons s b) ρ T) nx bk ct rt ex := by
  rw [denB]
  cases e : denS C O s ρ T with
  | nx ρ' T' => rw [e] at h; exact h
  | rt u T' => rw [e] at h; exact h
  | bk ρ T => rw [e] at h; exact h
  | ct ρ T => rw [e] at h; exact h
  | exc => rw [e] at h; exact h.elim
  | fail => rw [e] at h; exact h.elim
theorem xt_nil (h : nx ρ T) : Wpx (denB C O .nil ρ T) nx bk ct rt ex := by
  rw [denB]
  exact h
theorem xt_asg {k : Nat} {e : CE} (he : den C O ρ e T = .ok u T') (h : Wpx (denB C O b (ρ.set k (some u)) T') nx bk ct rt ex) : Wpx (denB C O (.cons (.asg (.nm k) e) b) ρ T) nx bk ct rt ex :=
  xt_st (by rw [denS_asg, he, F.of_ok, asgT_nm]; exact h)
theorem xt_asgT {g : Tg} {e : CE} {ρ' : Rho} (he : den C O ρ e T = .ok u T') (hg : asgT O T' g u ρ = some ρ') (h : Wpx (denB C O b ρ' T') nx bk ct rt ex) : Wpx (denB C O (.cons (.asg g e) b) ρ T) nx bk ct rt ex :=
  xt_st (by rw [denS_asg, he, F.of_ok, hg]; exact h)
theorem xt_ex {e : CE} (he : den C O ρ e T = .ok u T') (h : Wpx (denB C O b ρ T') nx bk ct rt ex) : Wpx (denB C O (.cons (.ex e) b) ρ T) nx bk ct rt ex :=
  xt_st (by rw [denS_ex, he, F.of_ok]; exact h)
theorem xt_ret {e : CE} (he : den C O ρ e T = .ok u T') (h : rt u T') : Wpx (denB C O (.cons (.ret e) b) ρ T) nx bk ct rt ex :=
  xt_st (by rw [denS_ret, he, F.of_ok]; exact h)
theorem xt_nx {s : CS} {ρ' : Rho} (he : denS C O s ρ T = .nx ρ' T') (h : Wpx (denB C O b ρ' T') nx bk ct rt ex) : Wpx (denB C O (.cons s b) ρ T) nx bk ct rt ex :=
  xt_st (by rw [he]; exact h)
theorem xt_ite {t : CE} {a c : CB} (v : Bool) (he : den C O ρ t T = .ok (.d (.bool v)) T') (h : Wpx (denB C O (if v = true then a else c) ρ T') (fun ρ T => Wpx (denB C O b ρ T) nx bk ct rt ex) bk ct rt ex) : Wpx (denB C O (.cons (.ite t a c) b) ρ T) nx bk ct rt ex := by
  have e : denS C O (.ite t a c) ρ T = denB C O (if v = true then a else c) ρ T' := by
    rw [denS_ite, he, F.of_ok]
    cases v <;> rfl
  rw [denB, e]
  cases e2 : denB C O (if v = true then a else c) ρ T' with
  | nx ρ' T' => rw [e2] at h; exact h
  | rt u T' => rw [e2] at h; exact h
  | bk ρ T => rw [e2] at h; exact h
  | ct ρ T => rw [e2] at h; exact h
  | exc => rw [e2] at h; exact h
  | fail => rw [e2] at h; exact h.elim
theorem xt_raise {c : Nat} {ns : List Str} {as : CA} {ds : List D} (ha : denA C O ρ as T = .ok (ds.map .d) T') (hl : ds.length = ns.length) (h : ex c (ns.zip ds).reverse T') : Wpx (denB C O (.cons (.raise c ns as) b) ρ T) nx bk ct rt ex := by
  rw [denB, denS, ha]
  simp only [allD_map, if_pos hl]
  exact h
theorem xt_for {g : Tg} {it : IT} {c : CB} (its : Its) (T0 : Cs) (I : Nat → Rho → Cs → Prop) (e : denI C O ρ it T = .ok its T0) (h0 : I 0 ρ T0) (hw : ∀ i ρ T, I i ρ T → sameW O its.t T its.w = true)
    (h : ∀ i u, its.us[i]? = some u → ∀ ρ T, I i ρ T → ∃ ρ1, asgT O T g u ρ = some ρ1 ∧ Wpx (denB C O c ρ1 T) (I (i + 1)) (fun ρ T => Wpx (denB C O b ρ T) nx bk ct rt ex) (I (i + 1)) rt ex) (hx : ∀ ρ T, I its.us.length ρ T → Wpx (denB C O b ρ T) nx bk ct rt ex) : Wpx (denB C O (.cons (.for_ g it c) b) ρ T) nx bk ct rt ex := by
  rw [denB]
  suffices k : Wpx (denS C O (.for_ g it c) ρ T) (fun ρ T => Wpx (denB C O b ρ T) nx bk ct rt ex) bk ct rt ex by
    cases e2 : denS C O (.for_ g it c) ρ T with
    | nx ρ' T' => rw [e2] at k; exact k
    | rt u T' => rw [e2] at k; exact k
    | bk ρ T => rw [e2] at k; exact k
    | ct ρ T => rw [e2] at k; exact k
    | exc => rw [e2] at k; exact k
    | fail => rw [e2] at k; exact k.elim
  rw [denS, e]
  simp only
  suffices k : ∀ (us : List U) (i : Nat) (ρ : Rho) (T : Cs), its.us.drop i = us → i ≤ its.us.length → I i ρ T → Wpx (loopF (fun u ρ T => match asgT O T g u ρ with
        | some ρ' => denB C O c ρ' T
        | none => .fail) (fun T' => sameW O its.t T' its.w) us ρ T) (fun ρ T => Wpx (denB C O b ρ T) nx bk ct rt ex) bk ct rt ex from k its.us 0 ρ T0 rfl (Nat.zero_le _) h0
  intro us
  induction us with
  | nil =>
    intro i ρ T hd hi hI
    have : its.us.length ≤ i := List.drop_eq_nil_iff.mp hd
    have e : i = its.us.length := by omega
    subst e
    rw [loopF, if_pos (hw _ _ _ hI)]
    exact hx _ _ hI
  | cons u us ih =>
    intro i ρ T hd hi hI
    have hlt : i < its.us.length := by
      rcases Nat.lt_or_ge i its.us.length with h | h
      · exact h
      · rw [List.drop_eq_nil_of_le h] at hd; cases hd
    have hu : its.us[i]? = some u := by
      rw [List.drop_eq_getElem_cons hlt] at hd
      rw [List.getElem?_eq_getElem hlt]
      cases hd; rfl
    have hd' : its.us.drop (i + 1) = us := by rw [List.drop_eq_getElem_cons hlt] at hd; cases hd; rfl
    obtain ⟨ρ1, e1, e2⟩ := h i u hu ρ T hI
    rw [loopF_c _ _ _ _ _ _ (hw _ _ _ hI)]
    simp only [e1]
    cases e3 : denB C O c ρ1 T with
    | nx ρ' T' => rw [e3] at e2; exact ih (i + 1) ρ' T' hd' hlt e2
    | ct ρ' T' => rw [e3] at e2; exact ih (i + 1) ρ' T' hd' hlt e2
    | bk ρ' T' => rw [e3] at e2; exact e2
    | rt u T' => rw [e3] at e2; exact e2
    | exc => rw [e3] at e2; exact e2
    | fail => rw [e3] at e2; exact e2.elim
theorem gx_of {r : R U} {P : U → Cs → Prop} (h : Gv r P) : Gx r P ex := by
  cases r <;> first | exact h | exact h.elim
theorem Gx.eq_ok {r : R U} {P : U → Cs → Prop} (h : Gx r P fun _ _ _ => False) : ∃ u T, r = .ok u T ∧ P u T := by
  cases r with
  | ok u T => exact ⟨u, T, rfl, h⟩
  | exc => exact h.elim
  | fail => exact h.elim
theorem Gx.eq_ex {r : R U} (h : Gx r (fun _ _ => False) ex) : ∃ c fs T, r = .exc c fs T ∧ ex c fs T := by
  cases r with
  | ok u T => exact h.elim
  | exc c fs T => exact ⟨c, fs, T, rfl, h⟩
  | fail => exact h.elim
theorem run_wx {G : Pg} {n j np ns : Nat} {b : CB} {us : List U} {P : U → Cs → Prop} (hG : G.defs j = some ⟨np, ns, b⟩) (hl : us.length = np) (h : Wpx (denB (cn G n) O b (us.map some ++ List.replicate (ns - us.length) none) T) (fun _ T' => P (.d .none) T') (fun _ _ => False) (fun _ _ => False) P ex) : Gx (Y.run G (n + 1) O j us T) P ex := by
  rw [run_S hG, bodyRun_eq hl]
  cases e : denB (cn G n) O b (us.map some ++ List.replicate (ns - us.length) none) T with
  | nx ρ T' => rw [e] at h; exact h
  | rt u T' => rw [e] at h; exact h
  | bk ρ T' => rw [e] at h; exact h.elim
  | ct ρ T' => rw [e] at h; exact h.elim
  | exc => rw [e] at h; exact h
  | fail => rw [e] at h; exact h.elim
theorem callP_x {f : Nat} {us : List U} {c : Nat} {fs : List (Str × D)} (h : C.call (O ++ T) f us [] = .exc c fs T') : callP C O f us T = .exc c fs T := by
  unfold callP
  rw [h]
theorem xcall_ok {g : Option Nat} {f : Nat} {as : CA} {us : List U} (ha : denA C O ρ as T = .ok us T) (hc : callP C O f us T = .ok u T) : denB C O (.cons (.xcall g false f as) .nil) ρ T = .nx (match (generalizing := false) g with | some i => ρ.set i (some u) | none => ρ) T := by
  rw [denB, denS, ha]
  simp only [Bool.false_eq_true, if_false, hc]
  cases g <;> simp [denB]
theorem xcall_ex {g : Option Nat} {f : Nat} {as : CA} {us : List U} {c : Nat} {fs : List (Str × D)} (ha : denA C O ρ as T = .ok us T) (hc : callP C O f us T = .exc c fs T) : denB C O (.cons (.xcall g false f as) .nil) ρ T = .exc c fs ρ T := by
  rw [denB, denS, ha]
  simp only [Bool.false_eq_true, if_false, hc]
theorem st_tryN {bd s : CB} {ks : List Nat} {sl : Option Nat} {ρ' : Rho} (hb : denB C O bd ρ T = .nx ρ' T') (h : Wp (denB C O b ρ' T') nx bk ct rt) : Wp (denB C O (.cons (.try_ bd ks sl s) b) ρ T) nx bk ct rt := by
  refine st_nx (ρ' := ρ') (T' := T') ?_ h
  rw [denS, hb]
theorem st_tryX {bd s : CB} {ks : List Nat} {i k : Nat} {fs : List (Str × D)} {ρ' : Rho} (hb : denB C O bd ρ T = .exc k fs ρ' T') (hk : k ∈ ks)
    (h : Wp (denB C O s (ρ'.set i (some (.ref (O.length + T'.length)))) (T' ++ [.exn k fs])) (fun ρ2 T2 => Wp (denB C O b (ρ2.set i none) T2) nx bk ct rt) (fun _ _ => False) (fun _ _ => False) rt) : Wp (denB C O (.cons (.try_ bd ks (some i) s) b) ρ T) nx bk ct rt := by
  rw [denB, denS, hb]
  simp only [if_pos hk]
  cases e : denB C O s (ρ'.set i (some (.ref (O.length + T'.length)))) (T' ++ [.exn k fs]) with
  | nx ρ2 T2 => rw [e] at h; exact h
  | rt u T2 => rw [e] at h; exact h
  | bk => rw [e] at h; exact h.elim
  | ct => rw [e] at h; exact h.elim
  | exc => rw [e] at h; exact h.elim
  | fail => rw [e] at h; exact h.elim
theorem st_tryX0 {bd s : CB} {ks : List Nat} {k : Nat} {fs : List (Str × D)} {ρ' : Rho} (hb : denB C O bd ρ T = .exc k fs ρ' T') (hk : k ∈ ks)
    (h : Wp (denB C O s ρ' T') (fun ρ2 T2 => Wp (denB C O b ρ2 T2) nx bk ct rt) (fun _ _ => False) (fun _ _ => False) rt) : Wp (denB C O (.cons (.try_ bd ks none s) b) ρ T) nx bk ct rt := by
  rw [denB, denS, hb]
  simp only [if_pos hk]
  cases e : denB C O s ρ' T' with
  | nx ρ2 T2 => rw [e] at h; exact h
  | rt u T2 => rw [e] at h; exact h
  | bk => rw [e] at h; exact h.elim
  | ct => rw [e] at h; exact h.elim
  | exc => rw [e] at h; exact h.elim
  | fail => rw [e] at h; exact h.elim
@[simp] theorem biU_isexn (l : Bool) (yes no : List Nat) (us : List U) : biU O l (.isexn yes no) us T = one us (isexnB O T yes no) := rfl
@[simp] theorem biU_xfld (l : Bool) (ks : List Nat) (f : Str) (us : List U) : biU O l (.xfld ks f) us T = one us (xfldB O T ks f) := rfl
theorem isexn_t {i k : Nat} {fs : List (Str × D)} {yes no : List Nat} (h : getC O T i = some (.exn k fs)) (hk : k ∈ yes) : isexnB O T yes no (.ref i) = .ok (.d (.bool true)) T := by
  unfold isexnB
  simp only [h, if_pos hk]
theorem isexn_f {i k : Nat} {fs : List (Str × D)} {yes no : List Nat} (h : getC O T i = some (.exn k fs)) (hy : k ∉ yes) (hk : k ∈ no) : isexnB O T yes no (.ref i) = .ok (.d (.bool false)) T := by
  unfold isexnB
  simp only [h, if_neg hy, if_pos hk]
theorem xfld_ok {i k : Nat} {fs : List (Str × D)} {ks : List Nat} {f : Str} {v : D} (h : getC O T i = some (.exn k fs)) (hk : k ∈ ks) (hf : fs.lookup f = some v) : xfldB O T ks f (.ref i) = .ok (.d v) T := by
  unfold xfldB
  simp only [h, if_pos hk, hf]
end
end S
end Y

set_option Elab.async false
set_option linter.all false
set_option maxRecDepth 100000
set_option maxHeartbeats 3200000
namespace Y
open PySem PySem.Spec L2
theorem sorted_ext : ∀ {xs ys : List Nat}, xs.Pairwise (· < ·) → ys.Pairwise (· < ·) → (∀ a, a ∈ xs ↔ a ∈ ys) → xs = ys
  | [], [], _, _, _ => rfl
  | [], y :: ys, _, _, h => absurd ((h y).mpr List.mem_cons_self) (by simp)
  | x :: xs, [], _, _, h => absurd ((h x).mp List.mem_cons_self) (by simp)
  | x :: xs, y :: ys, h1, h2, h => by
    obtain ⟨a1, b1⟩ := List.pairwise_cons.mp h1
    obtain ⟨a2, b2⟩ := List.pairwise_cons.mp h2
    have e : x = y := by
      have p := (h x).mp List.mem_cons_self
      have q := (h y).mpr List.mem_cons_self
      rcases List.mem_cons.mp p with p | p
      · exact p
      · rcases List.mem_cons.mp q with q | q
        · exact q.symm
        · have := a2 x p
          have := a1 y q
          omega
    subst e
    congr 1
    refine sorted_ext b1 b2 fun a => ⟨fun m => ?_, fun m => ?_⟩
    · rcases List.mem_cons.mp ((h a).mp (List.mem_cons_of_mem _ m)) with q | q
      · have := a1 a m
        omega
      · exact q
    · rcases List.mem_cons.mp ((h a).mpr (List.mem_cons_of_mem _ m)) with q | q
      · have := a2 a m
        omega
      · exact q
def SmP (z : Int × Int) : Prop := 0 ≤ z.1 ∧ z.1 < 64 ∧ 0 ≤ z.2 ∧ z.2 < 64
theorem pairN_lt {z : Int × Int} (h : SmP z) : pairN z < 4096 := by
  obtain ⟨h1, h2, h3, h4⟩ := h
  unfold pairN
  omega
theorem pairN_dec {z : Int × Int} (h : SmP z) : (((pairN z / 64 : Nat) : Int), ((pairN z % 64 : Nat) : Int)) = z := by
  obtain ⟨h1, h2, h3, h4⟩ := h
  obtain ⟨a, b⟩ := z
  unfold pairN
  simp only at *
  ext
  · simp only
    omega
  · simp only
    omega
theorem sortP_eq {zs M : List (Int × Int)} (hz : ∀ z ∈ zs, SmP z) (hM : (M.map pairN).Pairwise (· < ·)) (h : ∀ z, z ∈ M ↔ z ∈ zs) : M = sortP zs := by
  have e : M.map pairN = (List.range 4096).filter fun c => (zs.map pairN).contains c := by
    refine sorted_ext hM (List.Pairwise.filter _ List.pairwise_lt_range) fun a => ?_
    rw [List.mem_filter, List.mem_range, List.contains_iff_mem, List.mem_map, List.mem_map]
    constructor
    · rintro ⟨z, hz1, rfl⟩
      exact ⟨pairN_lt (hz z ((h z).mp hz1)), z, (h z).mp hz1, rfl⟩
    · rintro ⟨_, z, hz1, rfl⟩
      exact ⟨z, (h z).mpr hz1, rfl⟩
  unfold sortP
  rw [← e, List.map_map]
  symm
  rw [show M = M.map id by simp] 
  rw [List.map_map]
  refine List.map_congr_left fun z hm => ?_
  exact pairN_dec (hz z ((h z).mp hm))
theorem pairsOf_sm : ∀ {ds : List D} {zs : List (Int × Int)}, pairsOf ds = some zs → (∀ z ∈ zs, SmP z) ∧ ds = zs.map pairD
  | [], zs, h => by
    unfold pairsOf at h
    cases h
    exact ⟨(fun _ h => nomatch h), rfl⟩
  | d :: r, zs, h => by
    unfold pairsOf at h
    split at h
    · rename_i e
      cases e
    · rename_i a b r' e
      cases e
      split at h
      · rename_i hb
        obtain ⟨zs', e1, rfl⟩ := Option.map_eq_some_iff.mp h
        obtain ⟨h1, h2⟩ := pairsOf_sm e1
        refine ⟨fun z hz => ?_, ?_⟩
        · rcases List.mem_cons.mp hz with rfl | hz
          · exact hb
          · exact h1 z hz
        · rw [h2] <;> rfl
      · cases h
    · cases h
theorem rps_pairs {G : Hp} : ∀ {zs : List (Int × Int)} {vs : List V}, Rps G vs (zs.map pairD) → ∃ ks : List (Addr × List Int), vs = ks.map (fun p => V.ref p.1) ∧ ks.map (·.2) = zs.map (fun z => [z.1, z.2]) ∧ ∀ p ∈ ks, G p.1 = some (.tup (p.2.map V.int))
  | [], vs, h => by
    cases h
    exact ⟨[], rfl, rfl, fun _ h => nomatch h⟩
  | z :: zs, vs, h => by
    cases h with
    | cons h1 h2 =>
      obtain ⟨ks, e1, e2, e3⟩ := rps_pairs h2
      unfold pairD at h1
      cases h1 with
      | tup hg hr =>
        rename_i a ws
        cases hr with
        | cons x1 hr =>
          cases x1
          cases hr with
          | cons x2 hr =>
            cases x2
            cases hr
            refine ⟨(a, [z.1, z.2]) :: ks, by rw [e1] <;> rfl, by rw [List.map_cons, e2] <;> rfl, fun p hp => ?_⟩
            rcases List.mem_cons.mp hp with rfl | hp
            · exact hg
            · exact e3 p hp
def toP : List Int → Int × Int
  | [a, b] => (a, b)
  | _ => (0, 0)
theorem rps_map {G : Hp} : ∀ (L : List (Addr × List Int)), (∀ p ∈ L, G p.1 = some (.tup (p.2.map V.int)) ∧ ∃ a b, p.2 = [a, b]) → Rps G (L.map fun p => V.ref p.1) ((L.map fun p => toP p.2).map pairD)
  | [], _ => .nil
  | p :: L, h => by
    obtain ⟨h1, a, b, h2⟩ := h p List.mem_cons_self
    refine .cons ?_ (rps_map L fun q hq => h q (List.mem_cons_of_mem _ hq))
    show Rp G (V.ref p.1) (pairD (toP p.2))
    rw [h2] at h1 ⊢
    exact .tup h1 (.cons (.int a) (.cons (.int b) .nil))
theorem bt_sorted : bootBuiltins "sorted" = some (.builtin "sorted") := by decide +kernel
theorem bt_set : bootBuiltins "set" = some (.type "set") := by decide +kernel
section
variable {X : Cx} {mg : Str → Option Value} {base : Heap} {ca : Nat → Addr} {N : List Str} {sc : Scope} {vm tm : List Bool} {n : Nat} {C : Cn} {a : Expr} {ea : CE} {p p2 pos pos2 : Pos}
theorem y_sortset (g : Cg X N sc vm tm n) {l : Bool} (hL : X.mg "sorted" = none) (hR : X.mg "set" = none) (ha : PE X a (RE ca C ea)) (gl : sc.names.lookup ("sorted" : Str) = some .globalImplicit := by rfl) (gr : sc.names.lookup ("set" : Str) = some .globalImplicit := by rfl)
    (na : starEach [a] X.env = (false, eval a X.env) :: starEach [] X.env := by rfl) (na2 : starEach [.Call (.Name "set" p2) [a] [] pos2] X.env = (false, eval (.Call (.Name "set" p2) [a] [] pos2) X.env) :: starEach [] X.env := by rfl)
    (nb : (backTo pos2 (starEach [] X.env)).any (·.1) = false := by rfl) (nb2 : (backTo pos (starEach [] X.env)).any (·.1) = false := by rfl) : PE X (.Call (.Name "sorted" p) [.Call (.Name "set" p2) [a] [] pos2] [] pos) (RE ca C (.bi l .sortset (.cons ea .nil))) := by
  have hu := g.hu
  have p1 := pe_callTy (p := p2) (pos := pos2) (es := []) (cr_setOfT g.calm (by omega)) (gl_of g gr) hR bt_set (pa_cons ha pa_nil na) (by decide) (by decide) na nb
  have p2' := pe_callB (p := p) (pos := pos) (es := []) (cr_sortedT g.calm) (gl_of g gl) hL bt_sorted (pa_cons p1 pa_nil na2) (by decide) (by decide) na2 nb2
  refine p2'.imp ?_
  rintro σ H Q ⟨φ, G, O, ρ, T, t, h⟩
  have e0 : den C O ρ (.bi l .sortset (.cons ea .nil)) T = (den C O ρ ea T).bind fun u T => sortsetB O l T u := by
    rw [den_bi, denA_cons, R.bind_bind]
    congr 1
  rw [e0] at h
  refine ⟨φ, G, O, ρ, T, t, Pc.imp h.bind ?_⟩
  rintro x H1 ⟨φ1, G1, T1, u, f1, s1, r1, h1⟩
  unfold sortsetB at h1
  split at h1
  · rename_i ds hs
    obtain ⟨us, e1, e2⟩ := Option.bind_eq_some_iff.mp hs
    obtain ⟨b, vs, rfl, hb, ra⟩ := seqL_ok s1 r1 e1
    split at h1
    · rename_i zs hz
      obtain ⟨hsm, rfl⟩ := pairsOf_sm hz
      obtain ⟨ks, rfl, ek, eg⟩ := rps_pairs (ra.down e2)
      have hlen : ks.length = zs.length := by
        have := congrArg List.length ek
        simpa using this
      split at h1
      · rename_i hd
        have hsq : ∀ p ∈ ks, SqT X.K H1 p.1 (p.2.map V.int) := fun p hp => .inl (.inl (s1.ex _ _ (eg p hp)))
        refine ⟨b, ks, rfl, .inl hb, hsq, by omega, fun q L hq hL1 hL2 => ?_⟩
        have hex : Ex H1 (upd H1 q (SetTO X.prog X.w q L)) := Ex.new hq
        have hk2 : ∀ p ∈ ks, ∃ z ∈ zs, p.2 = [z.1, z.2] := fun p hp => by
          have : p.2 ∈ ks.map (·.2) := List.mem_map.mpr ⟨p, hp, rfl⟩
          rw [ek, List.mem_map] at this
          obtain ⟨z, hz, e⟩ := this
          exact ⟨z, hz, e.symm⟩
        refine ⟨q, L, 2, 64, rfl, upd_same, fun p hp => .inl (.inl (hex _ _ (s1.ex _ _ (eg p (hL1 p hp))))), by decide, fun p hp => ?_, fun L' r hpm hnd _ hpw hr => ?_⟩
        · obtain ⟨z, hz1, e⟩ := hk2 p (hL1 p hp)
          obtain ⟨x1, x2, x3, x4⟩ := hsm z hz1
          rw [e]
          refine ⟨rfl, fun m hm => ?_⟩
          simp only [List.mem_cons, List.not_mem_nil, or_false] at hm
          rcases hm with rfl | rfl
          · exact ⟨x1, x2⟩
          · exact ⟨x3, x4⟩
        · have hmem : ∀ p ∈ L', p ∈ ks := fun p hp => hL1 p (hpm.mem_iff.mp hp)
          have hM : L'.map (fun p => toP p.2) = sortP zs := by
            refine sortP_eq hsm ?_ fun z => ?_
            · rw [List.map_map, List.pairwise_map]
              have hnd' : L'.Pairwise fun p r => p.2 ≠ r.2 := List.pairwise_map.mp hnd
              refine List.Pairwise.imp_of_mem (fun {p r} hp hr h => ?_) (hpw.and hnd')
              obtain ⟨z, hz1, e⟩ := hk2 p (hmem p hp)
              obtain ⟨z', hz1', e'⟩ := hk2 r (hmem r hr)
              obtain ⟨x1, x2, x3, x4⟩ := hsm z hz1
              obtain ⟨y1, y2, y3, y4⟩ := hsm z' hz1'
              have h1 := h.1
              have h2 := h.2
              rw [e, e'] at h1 h2
              rw [code_pair, code_pair] at h1
              have hne : ¬ (z.1 = z'.1 ∧ z.2 = z'.2) := fun ⟨q1, q2⟩ => h2 (by rw [q1, q2])
              show pairN (toP p.2) < pairN (toP r.2)
              rw [e, e']
              show (z.1 * 64 + z.2).toNat < (z'.1 * 64 + z'.2).toNat
              omega
            · constructor
              · intro hz1
                obtain ⟨p, hp, rfl⟩ := List.mem_map.mp hz1
                obtain ⟨z, hz1, e⟩ := hk2 p (hmem p hp)
                rw [e]
                exact hz1
              · intro hz1
                have : [z.1, z.2] ∈ ks.map (·.2) := by
                  rw [ek]
                  exact List.mem_map.mpr ⟨z, hz1, rfl⟩
                obtain ⟨p, hp, e⟩ := List.mem_map.mp this
                have := hL2 p hp
                obtain ⟨p', hp', e'⟩ := List.mem_map.mp this
                refine List.mem_map.mpr ⟨p', hpm.mem_iff.mpr hp', ?_⟩
                rw [e', e]
                rfl
          have s2 : Sd ca φ1 G1 (upd H1 q (SetTO X.prog X.w q L)) (O ++ T1) := s1.grow hq
          refine mkL_ok h1 s2 ?_ hr
          rw [← hM]
          have := rps_map (G := G1) L' fun p hp => ⟨eg p (hmem p hp), by obtain ⟨z, _, e⟩ := hk2 p (hmem p hp); exact ⟨_, _, e⟩⟩
          have := this.up (φ := φ1)
          rw [List.map_map] at this
          exact this
      · exact h1.elim
    · exact h1.elim
  · exact h1.elim
end
end Y

set_option Elab.async false
set_option linter.all false
set_option maxRecDepth 100000
set_option maxHeartbeats 4000000
namespace Lk12
open PySem PySem.Spec L2 Y
def b5 : CB := (.cons (.ret (.comp false (.v 1) (.nm 1) (.rng1 (.g 0)) (.cmp .eq (.bin false .band (.bin false .shr (.v 0) (.v 1)) (.c (.int 1))) (.c (.int 1))) [1]))
 .nil)
def d_facts_in : FD := ⟨1, 2, b5⟩
def b6 : CB := (.cons (.asg (.nm 2) (.bin true .mul (.lst false (.cons (.c (.int 0)) .nil)) (.v 0)))
 (.cons (.for_ (.tp (.cons (.nm 3) (.cons (.nm 4) .nil))) (.lst (.v 1)) (.cons (.ite (.or (.not (.chain .le .lt (.c (.int 0)) (.v 3) (.v 0))) (.not (.chain .le .lt (.c (.int 0)) (.v 4) (.g 0)))) (.cons (.raise 1 [] .nil)
   .nil) .nil)
  (.cons (.seti (.v 2) (.v 3) (.bin false .bor (.ix (.v 2) (.v 3)) (.bin false .shl (.c (.int 1)) (.v 4))))
  .nil)))
 (.cons (.ret (.bi false .tuple (.cons (.v 2) .nil)))
 .nil)))
def d_table_of : FD := ⟨2, 5, b6⟩
def b7 : CB := (.cons (.asg (.nm 1) (.lst true .nil))
 (.cons (.for_ (.tp (.cons (.nm 2) (.cons (.nm 3) .nil))) (.enumT (.v 0)) (.cons (.ex (.mt false .extend (.v 1) (.cons (.comp false (.tup (.cons (.v 2) (.cons (.v 4) .nil))) (.nm 4) (.lst (.call false 5 (.cons (.v 3) .nil) [])) (.c (.bool true)) [4]) .nil)))
  .nil))
 (.cons (.ret (.v 1))
 .nil)))
def d_pairs_of : FD := ⟨1, 5, b7⟩
def b8 : CB := (.cons (.ite (.cmp .lt (.v 1) (.bi false .len (.cons (.v 0) .nil))) (.cons (.ret (.ix (.v 0) (.v 1)))
  .nil) .nil)
 (.cons (.ret (.bin false .add (.bin false .mul (.c (.int 7919)) (.v 1)) (.bi false .len (.cons (.v 0) .nil))))
 .nil))
def d__law_cell_at : FD := ⟨2, 2, b8⟩
def b10 : CB := (.cons (.asg (.nm 2) (.lst false (.cons (.c (.bool false)) .nil)))
 (.cons (.try_ (.cons (.xcall none false 6 (.cons (.v 0) (.cons (.v 1) .nil))) .nil) [1] (some 3) (.cons (.asg (.nm 2) (.lst false (.cons (.bi false (.isexn [1] []) (.cons (.v 3) .nil)) (.cons (.bi false (.isexn [1] []) (.cons (.v 3) .nil)) (.cons (.not (.bi false (.isexn [] [1]) (.cons (.v 3) .nil))) .nil)))))
   (.cons (.asg (.nm 2) (.bin false .add (.v 2) (.lst false (.cons (.not (.bi false (.isexn [] [1]) (.cons (.v 3) .nil))) .nil))))
   .nil)))
 (.cons (.ret (.cmp .notin (.c (.bool false)) (.v 2)))
 .nil)))
def d__law_refused : FD := ⟨2, 4, b10⟩
def b11 : CB := (.cons (.asg (.nm 1) (.bin false .add (.c (.int 1)) (.bin false .mod (.call false 8 (.cons (.v 0) (.cons (.c (.int 0)) .nil)) []) (.c (.int 6)))))
 (.cons (.asg (.nm 3) (.comp true (.tup (.cons (.bin false .mod (.bin false .fdiv (.v 2) (.c (.int 6))) (.v 1)) (.cons (.bin false .mod (.v 2) (.c (.int 6))) .nil))) (.nm 2) (.lst (.v 0)) (.c (.bool true)) [2]))
 (.cons (.asg (.nm 4) (.lst true .nil))
 (.cons (.for_ (.nm 5) (.rng1 (.v 1)) (.cons (.asg (.nm 6) (.c (.int 0)))
  (.cons (.for_ (.nm 7) (.rng1 (.c (.int 6))) (.cons (.asg (.nm 6) (.bin false .add (.v 6) (.bin false .mul (.ix (.tup (.cons (.c (.int 1)) (.cons (.c (.int 2)) (.cons (.c (.int 4)) (.cons (.c (.int 8)) (.cons (.c (.int 16)) (.cons (.c (.int 32)) .nil))))))) (.v 7)) (.bi false .int (.cons (.cmp .isin (.tup (.cons (.v 5) (.cons (.v 7) .nil))) (.v 3)) .nil)))))
   .nil))
  (.cons (.ex (.mt false .append (.v 4) (.cons (.v 6) .nil)))
  .nil))))
 (.cons (.asg (.nm 8) (.bi true .list (.cons (.v 3) .nil)))
 (.cons (.asg (.nm 9) (.call false 6 (.cons (.v 1) (.cons (.v 8) .nil)) []))
 (.cons (.ite (.or (.not (.bi false .istuple (.cons (.v 9) .nil))) (.or (.cmp .ne (.v 9) (.bi false .tuple (.cons (.v 4) .nil))) (.cmp .ne (.v 8) (.v 3)))) (.cons (.ret (.c (.bool false)))
  .nil) .nil)
 (.cons (.ex (.mt false .append (.v 8) (.cons (.tup (.cons (.c (.int 0)) (.cons (.c (.int 0)) .nil))) .nil)))
 (.cons (.asg (.nm 10) (.call true 7 (.cons (.v 9) .nil) []))
 (.cons (.ite (.or (.not (.bi false .islist (.cons (.v 10) .nil))) (.or (.cmp .ne (.v 10) (.bi false .sortset (.cons (.v 3) .nil))) (.cmp .ne (.call false 6 (.cons (.v 1) (.cons (.v 10) .nil)) []) (.v 9)))) (.cons (.ret (.c (.bool false)))
  .nil) .nil)
 (.cons (.ex (.mt false .append (.v 10) (.cons (.tup (.cons (.c (.int 0)) (.cons (.c (.int 5)) .nil))) .nil)))
 (.cons (.ite (.cmp .ne (.call false 7 (.cons (.v 9) .nil) []) (.bi false .sortset (.cons (.v 3) .nil))) (.cons (.ret (.c (.bool false)))
  .nil) .nil)
 (.cons (.asg (.nm 2) (.call false 8 (.cons (.v 0) (.cons (.c (.int 1)) .nil)) []))
 (.cons (.ite (.cmp .gt (.bin false .mod (.v 2) (.c (.int 3))) (.c (.int 0))) (.cons (.ret (.c (.bool true)))
  .nil) .nil)
 (.cons (.asg (.nm 11) (.bin false .add (.c (.int 1)) (.bin false .mod (.bin false .fdiv (.v 2) (.c (.int 24))) (.bin false .pow (.c (.int 10)) (.c (.int 18))))))
 (.cons (.asg (.nm 12) (.ix (.lst false (.cons (.tup (.cons (.bin false .add (.bin false .sub (.v 1) (.c (.int 1))) (.v 11)) (.cons (.c (.int 0)) .nil))) (.cons (.tup (.cons (.c (.int 0)) (.cons (.bin false .add (.c (.int 5)) (.v 11)) .nil))) (.cons (.tup (.cons (.bin false .sub (.c (.int 0)) (.v 11)) (.cons (.c (.int 0)) .nil))) (.cons (.tup (.cons (.c (.int 0)) (.cons (.bin false .sub (.c (.int 0)) (.v 11)) .nil))) .nil))))) (.bin false .mod (.bin false .fdiv (.v 2) (.c (.int 3))) (.c (.int 4)))))
 (.cons (.ex (.mt false .insert (.v 3) (.cons (.bin false .mod (.bin false .fdiv (.v 2) (.c (.int 12))) (.bin false .add (.bi false .len (.cons (.v 3) .nil)) (.c (.int 1)))) (.cons (.v 12) .nil))))
 (.cons (.ret (.and (.call false 10 (.cons (.v 1) (.cons (.v 3) .nil)) []) (.and (.call false 10 (.cons (.v 1) (.cons (.bi false .list (.cons (.v 3) .nil)) .nil)) []) (.cmp .eq (.call false 6 (.cons (.v 1) (.cons (.slc false (.v 10) .skip (.neg (.c (.int 1)))) .nil)) []) (.v 9)))))
 .nil))))))))))))))))))
def d_law : FD := ⟨1, 13, b11⟩
def G : Pg := ⟨fun f => match f with
  | 5 => some d_facts_in
  | 6 => some d_table_of
  | 7 => some d_pairs_of
  | 8 => some d__law_cell_at
  | 10 => some d__law_refused
  | 11 => some d_law
  | _ => none, fun k => match k with
  | 0 => some (.int 6)
  | _ => none⟩
theorem G5 : G.defs 5 = some d_facts_in := rfl
theorem G6 : G.defs 6 = some d_table_of := rfl
theorem G7 : G.defs 7 = some d_pairs_of := rfl
theorem G8 : G.defs 8 = some d__law_cell_at := rfl
theorem G10 : G.defs 10 = some d__law_refused := rfl
theorem G11 : G.defs 11 = some d_law := rfl
end Lk12

set_option Elab.async false
set_option linter.all false
set_option maxRecDepth 100000
set_option maxHeartbeats 4000000
namespace Lk12
open PySem Y Y.S
abbrev Zs := List (Int × Int)
def OkZ (n : Nat) (z : Int × Int) : Prop := 0 ≤ z.1 ∧ z.1 < (n : Int) ∧ 0 ≤ z.2 ∧ z.2 < 6
def bt (zs : Zs) (f o : Nat) : Bool := zs.contains ((f : Int), (o : Int))
def tbl (n : Nat) (zs : Zs) : List Nat := (List.range n).map fun f => gm (bt zs f)
theorem tbl_len (n : Nat) (zs : Zs) : (tbl n zs).length = n := by simp [tbl]
theorem tbl_get {n : Nat} {zs : Zs} {f : Nat} (h : f < n) : (tbl n zs)[f]? = some (gm (bt zs f)) := by
  unfold tbl
  rw [List.getElem?_map, List.getElem?_range h]
  rfl
theorem bt_app (zs : Zs) (z : Int × Int) (f o : Nat) : bt (zs ++ [z]) f o = (bt zs f o || decide (z = ((f : Int), (o : Int)))) := by
  unfold bt
  rw [Bool.eq_iff_iff, List.contains_iff_mem, List.mem_append, Bool.or_eq_true, List.contains_iff_mem]
  simp [eq_comm]
theorem tbl_snoc {n : Nat} {zs : Zs} {z : Int × Int} (h : OkZ n z) : tbl n (zs ++ [z]) = (tbl n zs).set z.1.toNat (gm (bt zs z.1.toNat) ||| 2 ^ z.2.toNat) := by
  obtain ⟨h1, h2, h3, h4⟩ := h
  apply List.ext_getElem?
  intro i
  by_cases hi : i < n
  · rw [tbl_get hi, List.getElem?_set]
    by_cases hz : z.1.toNat = i
    · subst hz
      rw [if_pos rfl, if_pos (by rw [tbl_len]; exact hi)]
      congr 1
      apply eq_bits
      intro j
      rw [gm_bit, Nat.testBit_or, gm_bit, Nat.testBit_two_pow, bt_app]
      have e : (z = (((z.1.toNat : Nat) : Int), (j : Int))) ↔ z.2.toNat = j := by
        constructor
        · intro h
          have := congrArg Prod.snd h
          simp only at this
          omega
        · intro h
          ext
          · simp only
            omega
          · simp only
            omega
      have e2 : decide (z = (((z.1.toNat : Nat) : Int), (j : Int))) = decide (z.2.toNat = j) := decide_eq_decide.mpr e
      rw [e2]
      by_cases hj : j < 6
      · simp [hj]
      · have : ¬ z.2.toNat = j := by omega
        simp [hj, this]
    · rw [if_neg hz, tbl_get hi]
      congr 2
      funext j
      rw [bt_app]
      have : ¬ z = ((i : Int), (j : Int)) := fun h => hz (by rw [h]; simp)
      simp [this]
  · rw [List.getElem?_eq_none (by rw [tbl_len]; omega), List.getElem?_eq_none (by simp [tbl_len]; omega)]
theorem tbl_nil (n : Nat) : tbl n [] = List.replicate n 0 := by
  apply List.ext_getElem?
  intro i
  by_cases hi : i < n
  · rw [tbl_get hi, List.getElem?_replicate, if_pos hi]
    rfl
  · rw [List.getElem?_eq_none (by rw [tbl_len]; omega), List.getElem?_replicate, if_neg hi]
theorem tbl_congr {n : Nat} {zs ws : Zs} (h : ∀ z, z ∈ zs ↔ z ∈ ws) : tbl n zs = tbl n ws := by
  unfold tbl
  congr 1
  funext f
  congr 1
  funext o
  unfold bt
  rw [Bool.eq_iff_iff, List.contains_iff_mem, List.contains_iff_mem]
  exact h _
/-- the facts of a mask -/
def fct (r : Nat) : List Nat := (List.range 6).filter fun e => r.testBit e
def prsK (tb : List Nat) (k : Nat) : Zs := (List.range k).flatMap fun i => (fct (tb.getD i 0)).map fun e : Nat => ((i : Int), (e : Int))
def prs (tb : List Nat) : Zs := prsK tb tb.length
theorem prsK_succ (tb : List Nat) (k : Nat) : prsK tb (k + 1) = prsK tb k ++ (fct (tb.getD k 0)).map fun e : Nat => ((k : Int), (e : Int)) := by
  unfold prsK
  rw [List.range_succ, List.flatMap_append]
  simp
theorem prsK_len (tb : List Nat) (k : Nat) : (prsK tb k).length ≤ 6 * k := by
  induction k with
  | zero => simp [prsK]
  | succ k ih =>
    rw [prsK_succ, List.length_append, List.length_map]
    have : (fct (tb.getD k 0)).length ≤ 6 := Nat.le_trans (List.length_filter_le _ _) (by simp)
    omega
theorem prs_mem {n : Nat} {zs : Zs} (hz : ∀ z ∈ zs, OkZ n z) (z : Int × Int) : z ∈ prs (tbl n zs) ↔ z ∈ zs := by
  unfold prs prsK
  rw [tbl_len, List.mem_flatMap]
  constructor
  · rintro ⟨i, hi, h⟩
    rw [List.mem_range] at hi
    obtain ⟨e, he, rfl⟩ := List.mem_map.mp h
    unfold fct at he
    rw [List.mem_filter, List.mem_range, List.getD_eq_getElem?_getD, tbl_get hi, Option.getD_some, gm_bit] at he
    have := he.2
    simp only [Bool.and_eq_true] at this
    have := this.2
    unfold bt at this
    exact List.contains_iff_mem.mp this
  · intro h
    obtain ⟨h1, h2, h3, h4⟩ := hz z h
    refine ⟨z.1.toNat, List.mem_range.mpr (by omega), List.mem_map.mpr ⟨z.2.toNat, ?_, ?_⟩⟩
    · unfold fct
      rw [List.mem_filter, List.mem_range, List.getD_eq_getElem?_getD, tbl_get (by omega), Option.getD_some, gm_bit]
      refine ⟨by omega, ?_⟩
      have e : (((z.1.toNat : Nat) : Int), ((z.2.toNat : Nat) : Int)) = z := by
        ext
        · simp only
          omega
        · simp only
          omega
      have : bt zs z.1.toNat z.2.toNat = true := by
        unfold bt
        rw [e]
        exact List.contains_iff_mem.mpr h
      rw [this]
      simp
      omega
    · ext
      · simp only
        omega
      · simp only
        omega
theorem prs_sorted {n : Nat} {zs : Zs} (hn : n ≤ 6) (hz : ∀ z ∈ zs, OkZ n z) : prs (tbl n zs) = sortP zs := by
  refine sortP_eq (fun z h => ?_) ?_ (prs_mem hz)
  · obtain ⟨h1, h2, h3, h4⟩ := hz z h
    exact ⟨h1, by omega, h3, by omega⟩
  · rw [List.pairwise_map]
    unfold prs prsK
    rw [List.pairwise_flatMap]
    constructor
    · intro i _
      rw [List.pairwise_map]
      refine List.Pairwise.imp (fun {a b} h => ?_) (List.Pairwise.filter _ List.pairwise_lt_range)
      unfold pairN
      simp only
      omega
    · refine List.Pairwise.imp (fun {a b} h => ?_) List.pairwise_lt_range
      intro x hx y hy
      obtain ⟨e, he, rfl⟩ := List.mem_map.mp hx
      obtain ⟨e', he', rfl⟩ := List.mem_map.mp hy
      unfold fct at he he'
      rw [List.mem_filter, List.mem_range] at he he'
      unfold pairN
      simp only
      omega
theorem sort_mem {n : Nat} {zs : Zs} (hn : n ≤ 6) (hz : ∀ z ∈ zs, OkZ n z) (z : Int × Int) : z ∈ sortP zs ↔ z ∈ zs := by
  rw [← prs_sorted hn hz]
  exact prs_mem hz z
theorem sort_len {n : Nat} {zs : Zs} (hn : n ≤ 6) (hz : ∀ z ∈ zs, OkZ n z) : (sortP zs).length ≤ 36 := by
  rw [← prs_sorted hn hz]
  have := prsK_len (tbl n zs) (tbl n zs).length
  unfold prs
  rw [tbl_len] at this ⊢
  omega
/-- the law's sum of a row -/
def dsum (g : Nat → Bool) : Nat → Int
  | 0 => 0
  | k + 1 => dsum g k + 2 ^ k * (if g k = true then 1 else 0)
theorem dsum_gm (g : Nat → Bool) : dsum g 6 = ((gm g : Nat) : Int) := by
  rw [gm_eq]
  simp only [dsum]
  cases g 0 <;> cases g 1 <;> cases g 2 <;> cases g 3 <;> cases g 4 <;> cases g 5 <;> rfl
end Lk12

set_option Elab.async false
set_option linter.all false
set_option maxRecDepth 100000
set_option maxHeartbeats 4000000
namespace Lk12
open PySem Y Y.S
theorem facts_c (n : Nat) (O T : Cs) (r : Nat) : callP (cn G (n + 1)) O 5 [.d (.int (r : Nat))] T = .ok (.d (.list (nD (fct r)))) T := by
  refine callP_r O T (T' := []) (Gv.eq (run_wp G5 rfl ?_))
  have g0 : (cn G n).glob 0 = some (.int 6) := rfl
  generalize O ++ T = O
  generalize cn G n = C at *
  have e : den C O [some (.d (.int (r : Nat))), none] (.comp false (.v 1) (.nm 1) (.rng1 (.g 0)) (.cmp .eq (.bin false .band (.bin false .shr (.v 0) (.v 1)) (.c (.int 1))) (.c (.int 1))) [1]) [] = .ok (.d (.list (nD (fct r)))) [] := by
    refine comp_d (us := rngU 0 6 1) (w := none) (tt := []) (fun u => match u with | .d (.int e) => if (fun e => r.testBit e) e.toNat = true then some u else none | _ => none) ?_ (fun _ => rfl) ?_ (by decide) ?_
    · exact rng1_ok (z := 6) (by simp [g0]) (by simp [rngOk]) rfl
    · intro u hu acc
      simp only [rngU, List.mem_map, List.mem_range] at hu
      obtain ⟨j, hj, rfl⟩ := hu
      have hw0 : (0 + ((j : Nat) : Int) * 1) = ((j : Nat) : Int) := by omega
      rw [hw0]
      refine turn_flt (y := .d (.int (j : Int))) (asgT_nm _ _ _ _ _) ?_ ?_
      · have hb := bit_iff r j
        have hd : decide (Builtin.bitAnd ((r : Int) / 2 ^ j) 1 = 1) = r.testBit j := by
          rw [Bool.eq_iff_iff, decide_eq_true_eq]
          exact hb
        have hj0 : (0 : Int) ≤ (j : Int) := by omega
        show _ = R.ok (U.d (.bool (r.testBit ((j : Int).toNat)))) _
        rw [show ((j : Int).toNat) = j by omega, ← hd, show (2 : Int) ^ j = 2 ^ ((j : Int).toNat) by rw [show ((j : Int).toNat) = j by omega]]
        generalize (j : Int) = jI at hj0 ⊢
        generalize (r : Int) = rI
        simp [wipeR, hj0]
      · simp [wipeR]
    · exact fm_row (fun e => r.testBit e) _
  unfold b5
  generalize (CE.comp false (.v 1) (.nm 1) (.rng1 (.g 0)) (.cmp .eq (.bin false .band (.bin false .shr (.v 0) (.v 1)) (.c (.int 1))) (.c (.int 1))) [1]) = CC at e ⊢
  simp [e]
def zsD (zs : Zs) : List D := zs.map pairD
def b6L : CB := (.cons (.ite (.or (.not (.chain .le .lt (.c (.int 0)) (.v 3) (.v 0))) (.not (.chain .le .lt (.c (.int 0)) (.v 4) (.g 0)))) (.cons (.raise 1 [] .nil)
   .nil) .nil)
  (.cons (.seti (.v 2) (.v 3) (.bin false .bor (.ix (.v 2) (.v 3)) (.bin false .shl (.c (.int 1)) (.v 4))))
  .nil))
theorem b6_eq : b6 = (.cons (.asg (.nm 2) (.bin true .mul (.lst false (.cons (.c (.int 0)) .nil)) (.v 0)))
 (.cons (.for_ (.tp (.cons (.nm 3) (.cons (.nm 4) .nil))) (.lst (.v 1)) b6L)
 (.cons (.ret (.bi false .tuple (.cons (.v 2) .nil)))
 .nil))) := rfl
theorem nD_set (l : List Nat) (i v : Nat) : (nD l).set i (.int ((v : Nat) : Int)) = nD (l.set i v) := by
  unfold nD nI
  rw [List.map_set]
def LsU (O : Cs) (u : U) (ds : List D) : Prop := u = .d (.list ds) ∨ ∃ r, u = .ref r ∧ getC O [] r = some (.lst ds)
theorem LsU.sq {O : Cs} {u : U} {ds : List D} (h : LsU O u ds) (T : Cs) : seqL O T u = some (ds.map .d) := by
  rcases h with rfl | ⟨r, rfl, hr⟩
  · rfl
  · rw [seqL_ref, show getC O T r = some (.lst ds) from getC_app (S := T) hr]
theorem LsU.sw {O : Cs} {u : U} {ds : List D} (h : LsU O u ds) (T T' : Cs) : sameW O T T' (watch u) = true := by
  rcases h with rfl | ⟨r, rfl, hr⟩
  · rfl
  · exact sameW_refl (show getC O T r = some (.lst ds) from getC_app (S := T) hr) (show getC O T' r = some (.lst ds) from getC_app (S := T') hr) (.inl ⟨_, rfl⟩)
theorem turn6 {C : Cn} (g0 : C.glob 0 = some (.int 6)) (O : Cs) (n : Nat) (n6 : n ≤ 6) (zs : Zs) (z : Int × Int) (u : U) (nx bk ct : Rho → Cs → Prop) (rt : U → Cs → Prop) (ex : Nat → List (Str × D) → Cs → Prop)
    (hN : OkZ n z → nx [some (.d (.int n)), some u, some (.ref O.length), some (.d (.int z.1)), some (.d (.int z.2))] [.lst (nD (tbl n (zs ++ [z])))])
    (hX : ¬ OkZ n z → ex 1 [] [.lst (nD (tbl n zs))]) :
    Wpx (denB C O b6L [some (.d (.int n)), some u, some (.ref O.length), some (.d (.int z.1)), some (.d (.int z.2))] [.lst (nD (tbl n zs))]) nx bk ct rt ex := by
  obtain ⟨a, b⟩ := z
  simp only at hN hX ⊢
  unfold b6L
  by_cases hok : OkZ n (a, b)
  · obtain ⟨h1, h2, h3, h4⟩ := id hok
    simp only at h1 h2 h3 h4
    have hlt : a.toNat < n := by omega
    have hg : getC O [.lst (nD (tbl n zs))] O.length = some (.lst (nD (tbl n zs))) := by rw [getC_0]; rfl
    have hat : L2.atI (nD (tbl n zs)) a = some (.int ((gm (bt zs a.toNat) : Nat) : Int)) := by
      rw [atI_nat _ _ h1 (by simp [tbl_len]; omega)]
      rw [nD_get, tbl_get hlt]
      rfl
    have hset := seti_ok (O := O) (T := [.lst (nD (tbl n zs))]) hg (Nat.le_refl _) a (.int ((gm (bt zs a.toNat) ||| 2 ^ b.toNat : Nat) : Int)) a.toNat (ixN_of h1 (by simp [tbl_len]; omega))
    rw [nD_set] at hset
    have hsn := tbl_snoc (n := n) (zs := zs) hok
    simp only at hsn
    rw [← hsn, Nat.sub_self, List.set_cons_zero] at hset
    have hor : Builtin.bitOr ((gm (bt zs a.toNat) : Nat) : Int) (2 ^ b.toNat) = ((gm (bt zs a.toNat) ||| 2 ^ b.toNat : Nat) : Int) := by
      have e : ((2 : Int) ^ b.toNat) = ((2 ^ b.toNat : Nat) : Int) := by simp
      rw [e, bitOr_n]
    have hix : ixU O (.ref O.length) (.d (.int a)) [.lst (nD (tbl n zs))] = some (.d (.int ((gm (bt zs a.toNat) : Nat) : Int))) := ixU_at hg hat
    have hb10 : b ≤ 1000 := by omega
    have hN := hN hok
    clear hX hg hat hsn
    generalize ((gm (bt zs a.toNat) ||| 2 ^ b.toNat : Nat) : Int) = v2 at *
    generalize ((gm (bt zs a.toNat) : Nat) : Int) = v1 at *
    generalize nD (tbl n (zs ++ [(a, b)])) = R2 at *
    generalize nD (tbl n zs) = R1 at *
    generalize (n : Int) = nI at *
    refine xt_ite false (T' := [.lst R1]) (by simp [h1, h2, h3, h4, g0]) (xt_nil ?_)
    refine xt_nx (ρ' := [some (.d (.int nI)), some u, some (.ref O.length), some (.d (.int a)), some (.d (.int b))]) (T' := [.lst R2]) ?_ (xt_nil hN)
    simp [hix, h3, hb10, hor, hset]
  · have hX := hX hok
    refine xt_ite true (T' := [.lst (nD (tbl n zs))]) ?_ (xt_raise (ds := []) (T' := [.lst (nD (tbl n zs))]) (by simp) rfl hX)
    generalize nD (tbl n zs) = R1 at *
    unfold OkZ at hok
    simp only at hok
    by_cases h1 : 0 ≤ a
    · by_cases h2 : a < (n : Int)
      · by_cases h3 : 0 ≤ b
        · have h4 : ¬ b < 6 := fun h4 => hok ⟨h1, h2, h3, h4⟩
          generalize (n : Int) = nI at *
          simp [h1, h2, h3, h4, g0]
        · generalize (n : Int) = nI at *
          simp [h1, h2, h3, g0]
      · generalize (n : Int) = nI at *
        simp [h1, h2]
    · generalize (n : Int) = nI at *
      simp [h1]
theorem table_x (N : Nat) (O T : Cs) (n : Nat) (n6 : n ≤ 6) (zs : Zs) (hl : zs.length ≤ 1000) (u : U) (hu : LsU (O ++ T) u (zsD zs)) :
    ((∀ z ∈ zs, OkZ n z) → callP (cn G (N + 1)) O 6 [.d (.int n), u] T = .ok (.d (.tuple (nD (tbl n zs)))) T) ∧ ((∃ z ∈ zs, ¬ OkZ n z) → callP (cn G (N + 1)) O 6 [.d (.int n), u] T = .exc 1 [] T) := by
  suffices hg : Gx (Y.run G (N + 1) (O ++ T) 6 [.d (.int n), u] []) (fun u _ => (∀ z ∈ zs, OkZ n z) ∧ u = .d (.tuple (nD (tbl n zs)))) (fun c fs _ => (∃ z ∈ zs, ¬ OkZ n z) ∧ c = 1 ∧ fs = []) by
    cases er : Y.run G (N + 1) (O ++ T) 6 [.d (.int n), u] [] with
    | ok u T' =>
      rw [er] at hg
      obtain ⟨h1, rfl⟩ := hg
      exact ⟨fun _ => callP_r O T er, fun ⟨z, hz, h⟩ => absurd (h1 z hz) h⟩
    | exc c fs T' =>
      rw [er] at hg
      obtain ⟨⟨z, hz, h⟩, rfl, rfl⟩ := hg
      exact ⟨fun h1 => absurd (h1 z hz) h, fun _ => callP_x (C := cn G (N + 1)) (O := O) (T := T) er⟩
    | fail => rw [er] at hg; exact hg.elim
  generalize O ++ T = O at *
  refine run_wx (n := N) G6 rfl (wpx_mono (nx := fun _ _ => False) (bk := fun _ _ => False) (ct := fun _ _ => False) (rt := fun u _ => (∀ z ∈ zs, OkZ n z) ∧ u = .d (.tuple (nD (tbl n zs)))) (ex := fun c fs _ => (∃ z ∈ zs, ¬ OkZ n z) ∧ c = 1 ∧ fs = []) ?_ (fun _ _ h => False.elim h) (fun _ _ h => False.elim h) (fun _ _ h => False.elim h) (fun _ _ h => h) (fun _ _ _ h => h))
  have g0 : (cn G N).glob 0 = some (.int 6) := rfl
  generalize cn G N = C at *
  have hmul : binU O true .mul (.d (.list [.int 0])) (.d (.int n)) [] = .ok (.ref O.length) [.lst (nD (tbl n []))] := by
    show (if (decide ((0 : Int) ≤ n) && decide ((n : Int) ≤ 1000000) && Y.sizeOk (([U.d (.int 0)] : List U).length * (n : Int).toNat)) = true then mkL O true (List.replicate (n : Int).toNat [U.d (.int 0)]).flatten [] else .fail) = _
    rw [if_pos (by simp [Y.sizeOk]; omega), List.flatten_replicate_singleton, tbl_nil]
    have e : List.replicate (n : Int).toNat (U.d (.int 0)) = (nD (List.replicate n 0)).map .d := by
      unfold nD nI
      rw [List.map_replicate, List.map_replicate]
      simp
    rw [e]
    unfold mkL
    simp [allD_map]
  show Wpx (denB C O b6 [some (.d (.int n)), some u, none, none, none] []) _ _ _ _ _
  rw [b6_eq]
  refine xt_asg (u := .ref O.length) (T' := [.lst (nD (tbl n []))]) (by generalize (n : Int) = nI at *; simp [hmul]) ?_
  show Wpx (denB C O _ [some (.d (.int n)), some u, some (.ref O.length), none, none] _) _ _ _ _ _
  refine xt_for ⟨(zsD zs).map .d, watch u, [.lst (nD (tbl n []))]⟩ [.lst (nD (tbl n []))] (fun i ρ T => (∀ z ∈ zs.take i, OkZ n z) ∧ ∃ x3 x4 : Option U, T = [.lst (nD (tbl n (zs.take i)))] ∧ ρ = [some (.d (.int n)), some u, some (.ref O.length), x3, x4]) ?_ ⟨(fun z hz => by simp at hz), none, none, rfl, rfl⟩ (fun _ _ _ _ => hu.sw _ _) ?_ ?_
  · rw [denI_lst, den_v]
    have := hu.sq [.lst (nD (tbl n []))]
    simp [this]
  · rintro i uu hi ρ T ⟨hz, x3, x4, rfl, rfl⟩
    unfold zsD at hi
    rw [List.getElem?_map, List.getElem?_map, Option.map_eq_some_iff] at hi
    obtain ⟨d, hd, rfl⟩ := hi
    obtain ⟨z, hz1, rfl⟩ := Option.map_eq_some_iff.mp hd
    refine ⟨[some (.d (.int n)), some u, some (.ref O.length), some (.d (.int z.1)), some (.d (.int z.2))], by unfold pairD; generalize (n : Int) = nI; simp, ?_⟩
    have htk : zs.take (i + 1) = zs.take i ++ [z] := by rw [List.take_add_one, hz1]; rfl
    refine turn6 g0 O n n6 (zs.take i) z u _ _ _ _ _ (fun h => ⟨fun y hy => ?_, _, _, by rw [htk], rfl⟩) (fun h => ⟨⟨z, List.mem_of_getElem? hz1, h⟩, rfl, rfl⟩)
    rw [htk] at hy
    rcases List.mem_append.mp hy with hy | hy
    · exact hz y hy
    · rw [List.mem_singleton.mp hy]
      exact h
  · rintro ρ T ⟨hz, x3, x4, rfl, rfl⟩
    have e : List.take (((zsD zs).map U.d).length) zs = zs := List.take_of_length_le (by simp [zsD])
    simp only [e] at hz ⊢
    refine xt_ret (u := .d (.tuple (nD (tbl n zs)))) (T' := [.lst (nD (tbl n zs))]) ?_ ⟨hz, rfl⟩
    generalize nD (tbl n zs) = R1 at *
    generalize (n : Int) = nI at *
    simp
end Lk12

set_option Elab.async false
set_option linter.all false
set_option maxRecDepth 100000
set_option maxHeartbeats 4000000
namespace Lk12
open PySem Y Y.S
theorem ext_okT {O T : Cs} {k : Nat} (ds ws : List D) (hg : getC O T k = some (.lst ds)) (lo : O.length ≤ k) (h : ds.length + ws.length ≤ 1000000) : mtU O false .extend (.ref k) [.d (.list ws)] T = .ok (.d .none) (T.set (k - O.length) (.lst (ds ++ ws))) := by
  have hlt : k < O.length + T.length := by
    rw [getC_eq] at hg
    have := (List.getElem?_eq_some_iff.mp hg).1
    simpa using this
  unfold mtU
  simp only [hg, seqL_d, List.length_map]
  rw [if_pos (by simpa [Y.sizeOk] using h), ← List.map_append, cellOf_map]
  unfold setC
  rw [if_pos ⟨lo, hlt⟩]
def cPr : CE := (.comp false (.tup (.cons (.v 2) (.cons (.v 4) .nil))) (.nm 4) (.lst (.call false 5 (.cons (.v 3) .nil) [])) (.c (.bool true)) [4])
theorem b7_eq : b7 = (.cons (.asg (.nm 1) (.lst true .nil))
 (.cons (.for_ (.tp (.cons (.nm 2) (.cons (.nm 3) .nil))) (.enumT (.v 0)) (.cons (.ex (.mt false .extend (.v 1) (.cons cPr .nil)))
  .nil))
 (.cons (.ret (.v 1))
 .nil))) := rfl
theorem cPr_ok {C : Cn} (hf : ∀ (O T : Cs) (r : Nat), callP C O 5 [.d (.int (r : Nat))] T = .ok (.d (.list (nD (fct r)))) T) (O T : Cs) (i r : Nat) (x0 x1 x4 : Option U) : den C O [x0, x1, some (.d (.int (i : Nat))), some (.d (.int (r : Nat))), x4] cPr T = .ok (.d (.list (((fct r).map fun e : Nat => ((i : Int), (e : Int))).map pairD))) T := by
  unfold cPr
  have hf := hf O T r
  have hl : (fct r).length ≤ 6 := Nat.le_trans (List.length_filter_le _ _) (by simp)
  refine comp_m (us := (nD (fct r)).map .d) (w := none) (tt := T) ?_ (fun _ => rfl) (by simp) ?_ (by simp; omega)
  · rw [denI_lst]
    generalize nD (fct r) = L at *
    generalize (r : Int) = rI at *
    simp [hf]
  · intro j u d hu hd acc
    rw [List.getElem?_map, Option.map_eq_some_iff] at hu
    obtain ⟨b, hb, rfl⟩ := hu
    rw [nD_get, Option.map_eq_some_iff] at hb
    obtain ⟨e, he, rfl⟩ := hb
    rw [List.getElem?_map, List.getElem?_map, he] at hd
    simp only [Option.map_some, Option.some.injEq] at hd
    subst hd
    refine turn_all (asgT_nm _ _ _ _ _) ?_
    unfold nI pairD
    generalize (e : Int) = eI
    generalize (i : Int) = iI
    generalize (r : Int) = rI
    simp [wipeR]
theorem pairs_run (n : Nat) (O T : Cs) (tb : List Nat) (hl : tb.length ≤ 100) : Y.run G (n + 2) O 7 [.d (.tuple (nD tb))] T = .ok (.ref (O.length + T.length)) (T ++ [.lst (zsD (prs tb))]) := by
  refine Gv.eq (run_wp G7 rfl (wp_mono2' ?_))
  have hf := fun O T r => facts_c n O T r
  generalize cn G (n + 1) = C at *
  have hc := fun O T i r x0 x1 x4 => cPr_ok hf O T i r x0 x1 x4
  clear hf
  obtain ⟨k, hk⟩ : ∃ k, k = O.length + T.length := ⟨_, rfl⟩
  rw [← hk]
  show Wp (denB C O b7 [some (.d (.tuple (nD tb))), none, none, none, none] T) _ _ _ _
  rw [b7_eq]
  generalize cPr = cp at *
  refine st_asg (u := .ref k) (T' := T ++ [.lst []]) (by rw [hk]; simp) ?_
  show Wp (denB C O _ [some (.d (.tuple (nD tb))), some (.ref k), none, none, none] _) _ _ _ _
  refine st_for ⟨tb.zipIdx.map fun p => .d (.tuple [.int (p.2 : Nat), .int (p.1 : Nat)]), none, T ++ [.lst []]⟩ (T ++ [.lst []]) (fun i ρ T' => T' = T ++ [.lst (zsD (prsK tb i))] ∧ ∃ x y z : Option U, ρ = [some (.d (.tuple (nD tb))), some (.ref k), x, y, z]) ?_ ⟨by simp [prsK, zsD], none, none, none, rfl⟩ (fun _ _ _ _ => rfl) ?_ ?_
  · simp [nD, nI, List.zipIdx_map]
  · rintro i u hu ρ T' ⟨rfl, x, y, z, rfl⟩
    simp only [List.getElem?_map, Option.map_eq_some_iff] at hu
    obtain ⟨⟨r, j⟩, hp, rfl⟩ := hu
    have hr : tb[i]? = some r ∧ j = i := by
      rw [List.getElem?_zipIdx, Option.map_eq_some_iff] at hp
      obtain ⟨a, ha, e⟩ := hp
      cases e
      exact ⟨ha, by simp⟩
    obtain ⟨hr, rfl⟩ := hr
    have hj := (List.getElem?_eq_some_iff.mp hr).1
    refine ⟨[some (.d (.tuple (nD tb))), some (.ref k), some (.d (.int (j : Nat))), some (.d (.int (r : Nat))), z], by generalize (j : Int) = jI; generalize (r : Int) = rI; simp, ?_⟩
    have hg : getC O (T ++ [.lst (zsD (prsK tb j))]) k = some (.lst (zsD (prsK tb j))) := by rw [hk, getC_k]; simp
    have hpl := prsK_len tb j
    have hfl : (fct r).length ≤ 6 := Nat.le_trans (List.length_filter_le _ _) (by simp)
    have hex := ext_okT (O := O) (zsD (prsK tb j)) (((fct r).map fun e : Nat => ((j : Int), (e : Int))).map pairD) hg (by omega) (by simp [zsD]; omega)
    have hs : zsD (prsK tb j) ++ ((fct r).map fun e : Nat => ((j : Int), (e : Int))).map pairD = zsD (prsK tb (j + 1)) := by
      rw [prsK_succ, List.getD_eq_getElem?_getD, hr]
      unfold zsD
      rw [List.map_append]
      rfl
    rw [hs, hk, show O.length + T.length - O.length = T.length by omega, List.set_append_right (h := Nat.le_refl _), Nat.sub_self, ← hk] at hex
    simp only [List.set_cons_zero] at hex
    have hty : tyU O (T ++ [.lst (zsD (prsK tb j))]) (.ref k) = some .list := by rw [tyU_ref, hg]
    have hcc := hc O (T ++ [.lst (zsD (prsK tb j))]) j r (some (.d (.tuple (nD tb)))) (some (.ref k)) z
    have hend : T ++ [Cell.lst (zsD (prsK tb (j + 1)))] = T ++ [Cell.lst (zsD (prsK tb (j + 1)))] ∧ ∃ x y z' : Option U, [some (.d (.tuple (nD tb))), some (.ref k), some (.d (.int (j : Nat))), some (.d (.int (r : Nat))), z] = [some (U.d (.tuple (nD tb))), some (.ref k), x, y, z'] := ⟨rfl, _, _, _, rfl⟩
    clear hc hg hs
    generalize ((fct r).map fun e : Nat => ((j : Int), (e : Int))).map pairD = ws at *
    generalize T ++ [Cell.lst (zsD (prsK tb (j + 1)))] = T2 at *
    generalize T ++ [Cell.lst (zsD (prsK tb j))] = T1 at *
    refine st_ex (u := .d .none) (T' := T2) ?_ (st_nil hend)
    generalize (j : Int) = jI at *
    generalize (r : Int) = rI at *
    simp [hcc, hty, -tyU_ref, mtTy, hex]
  · rintro ρ T' ⟨rfl, x, y, z, rfl⟩
    have e : (tb.zipIdx.map fun p => U.d (.tuple [.int (p.2 : Nat), .int (p.1 : Nat)])).length = tb.length := by simp
    rw [e]
    exact st_ret (u := .ref k) (T' := T ++ [.lst (zsD (prsK tb tb.length))]) (by rw [den_v]; rfl) ⟨rfl, rfl⟩
def b10S : CB := (.cons (.asg (.nm 2) (.lst false (.cons (.bi false (.isexn [1] []) (.cons (.v 3) .nil)) (.cons (.bi false (.isexn [1] []) (.cons (.v 3) .nil)) (.cons (.not (.bi false (.isexn [] [1]) (.cons (.v 3) .nil))) .nil)))))
   (.cons (.asg (.nm 2) (.bin false .add (.v 2) (.lst false (.cons (.not (.bi false (.isexn [] [1]) (.cons (.v 3) .nil))) .nil))))
   .nil))
theorem b10_eq : b10 = (.cons (.asg (.nm 2) (.lst false (.cons (.c (.bool false)) .nil)))
 (.cons (.try_ (.cons (.xcall none false 6 (.cons (.v 0) (.cons (.v 1) .nil))) .nil) [1] (some 3) b10S)
 (.cons (.ret (.cmp .notin (.c (.bool false)) (.v 2)))
 .nil))) := rfl
theorem refused_c (N : Nat) (O T : Cs) (n : Nat) (n6 : n ≤ 6) (zs : Zs) (hl : zs.length ≤ 1000) (u : U) (hu : LsU (O ++ T) u (zsD zs)) (hz : ∃ z ∈ zs, ¬ OkZ n z) :
    callP (cn G (N + 2)) O 10 [.d (.int n), u] T = .ok (.d (.bool true)) T := by
  suffices hg : Gv (Y.run G (N + 2) (O ++ T) 10 [.d (.int n), u] []) fun u T' => u = .d (.bool true) by
    obtain ⟨u, T', er, rfl⟩ := hg.ex
    exact callP_r O T er
  generalize O ++ T = O at *
  refine run_wp G10 rfl (wp_mono2' ?_)
  have hw := (table_x N O [] n n6 zs hl u (by rw [List.append_nil]; exact hu)).2 hz
  generalize cn G (N + 1) = C at *
  show Wp (denB C O b10 [some (.d (.int n)), some u, none, none] []) _ _ _ _
  rw [b10_eq]
  generalize (n : Int) = nI at *
  refine st_asg (u := .d (.list [.bool false])) (T' := []) (by simp) ?_
  show Wp (denB C O _ [some (.d (.int nI)), some u, some (.d (.list [.bool false])), none] []) _ _ _ _
  have hA : denA C O [some (.d (.int nI)), some u, some (.d (.list [.bool false])), none] (.cons (.v 0) (.cons (.v 1) .nil)) [] = .ok [.d (.int nI), u] [] := by simp
  refine st_tryX (xcall_ex hA hw) (List.mem_singleton.mpr rfl) ?_
  show Wp (denB C O b10S [some (.d (.int nI)), some u, some (.d (.list [.bool false])), some (.ref (O.length + 0))] [.exn 1 []]) _ _ _ _
  have hg : getC O [Cell.exn 1 []] (O.length + 0) = some (.exn 1 []) := by rw [Nat.add_zero, getC_0]; rfl
  have i1 := isexn_f (yes := []) (no := [1]) hg (by decide) (by decide)
  have i2 := isexn_t (yes := [1]) (no := []) hg (by decide)
  generalize hT1 : [Cell.exn 1 []] = T1 at *
  generalize O.length + 0 = r at *
  unfold b10S
  refine st_asg (u := .d (.list [.bool true, .bool true, .bool true])) (T' := T1) (by simp [i1, i2]) ?_
  refine st_asg (u := .d (.list [.bool true, .bool true, .bool true, .bool true])) (T' := T1) (by simp [i1]) (st_nil ?_)
  have hni : ∀ T, cmpU O .notin (.d (.bool false)) (.d (.list [.bool true, .bool true, .bool true, .bool true])) T = some true := fun T => by
    show (if shp (.bool false) && shp (.list [.bool true, .bool true, .bool true, .bool true]) then some ((([.bool true, .bool true, .bool true, .bool true] : List D)).any fun z => PyData.eqv z (.bool false)) else none).map (!·) = _
    decide +kernel
  refine st_ret (u := .d (.bool true)) (T' := T1) (by simp [hni]) rfl
end Lk12

set_option Elab.async false
set_option linter.all false
set_option maxRecDepth 100000
set_option maxHeartbeats 4000000
namespace Lk12
open PySem Y Y.S
theorem lay_pair (z : Int × Int) : lay 1 (pairD z) := lay_tuple fun y hy => by
  simp only [List.mem_cons, List.not_mem_nil, or_false] at hy
  rcases hy with rfl | rfl <;> exact lay_int _
theorem lay_zs (zs : Zs) : lay 2 (.list (zsD zs)) := lay_list fun y hy => by
  obtain ⟨z, _, rfl⟩ := List.mem_map.mp hy
  exact lay_pair z
theorem noB_zs (zs : Zs) : noB (.list (zsD zs)) = true := by
  show noBs (zsD zs) = true
  induction zs with
  | nil => rfl
  | cons z zs ih =>
    show noBs (pairD z :: zsD zs) = true
    unfold noBs
    rw [ih]
    rfl
theorem any_bt (zs : Zs) (f o : Nat) : ((zsD zs).any fun z => PyData.eqv z (pairD ((f : Int), (o : Int)))) = bt zs f o := by
  unfold bt
  rw [Bool.eq_iff_iff, List.any_eq_true, List.contains_iff_mem]
  constructor
  · rintro ⟨y, hy, h⟩
    obtain ⟨z, hz, rfl⟩ := List.mem_map.mp hy
    have := (eqv_iff _ _ rfl rfl).mp h
    unfold pairD at this
    simp only [PyData.tuple.injEq, List.cons.injEq, PyData.int.injEq, and_true] at this
    rw [← this.1, ← this.2]
    exact hz
  · intro h
    exact ⟨pairD ((f : Int), (o : Int)), List.mem_map.mpr ⟨_, h, rfl⟩, (eqv_iff _ _ rfl rfl).mpr rfl⟩
theorem isin_zs {O T : Cs} {r : Nat} {zs : Zs} (h : getC O T r = some (.lst (zsD zs))) (f o : Nat) : cmpU O .isin (.d (.tuple [.int (f : Int), .int (o : Int)])) (.ref r) T = some (bt zs f o) := by
  rw [← any_bt]
  have hd : dictOf O T (.ref r) = none := by
    unfold dictOf
    simp only [h]
  have hs := (lay_zs zs).shp (by decide)
  have hp : shp (.tuple [.int (f : Int), .int (o : Int)]) = true := (lay_pair ((f : Int), (o : Int))).shp (by decide)
  unfold cmpU cmpU.isinU
  simp only [hd, toD_d, toD_refS, h, hp, hs, Bool.and_self, if_true]
  rfl
theorem cell_c (n : Nat) (ns : List Int) (hl : ns.length ≤ 63) (k : Int) (k0 : 0 ≤ k) (T : Cs) : ∃ w : Int, callP (cn G (n + 1)) [] 8 [.d (.list (ns.map .int)), .d (.int k)] T = .ok (.d (.int w)) T := by
  suffices hg : Gv (Y.run G (n + 1) ([] ++ T) 8 [.d (.list (ns.map .int)), .d (.int k)] []) fun u T' => ∃ w : Int, u = .d (.int w) by
    obtain ⟨u, T', e, w, rfl⟩ := hg.ex
    exact ⟨w, callP_r [] T e⟩
  refine run_wp G8 rfl ?_
  have hlb : ∀ T, lenB ([] ++ T) [] (.d (.list (ns.map .int))) = .ok (.d (.int ns.length)) [] := fun T => by simp
  have hix : ∀ T, k < (ns.length : Int) → ∃ w : Int, ixU ([] ++ T) (.d (.list (ns.map .int))) (.d (.int k)) [] = some (.d (.int w)) := by
    intro T h
    have hlt : k.toNat < ns.length := by omega
    refine ⟨ns[k.toNat], ?_⟩
    rw [ixU_L, atI_nat _ _ k0 (by simp; omega), List.getElem?_map, List.getElem?_eq_getElem hlt]
    rfl
  obtain ⟨ua, hua⟩ : ∃ ua : U, ua = .d (.list (ns.map .int)) := ⟨_, rfl⟩
  rw [← hua] at hlb hix ⊢
  have hlb := hlb T
  have hix := hix T
  generalize (ns.length : Int) = ln at hlb hix
  generalize [] ++ T = O at hlb hix ⊢
  have m1 : mulOk 7919 k = true := mul_okL (by decide)
  simp only [b8]
  simp [hlb, m1]
  intro h
  obtain ⟨w, hw⟩ := hix h
  simp [hw]
def cP : CE := (.comp true (.tup (.cons (.bin false .mod (.bin false .fdiv (.v 2) (.c (.int 6))) (.v 1)) (.cons (.bin false .mod (.v 2) (.c (.int 6))) .nil))) (.nm 2) (.lst (.v 0)) (.c (.bool true)) [2])
def lpI : CB := (.cons (.asg (.nm 6) (.bin false .add (.v 6) (.bin false .mul (.ix (.tup (.cons (.c (.int 1)) (.cons (.c (.int 2)) (.cons (.c (.int 4)) (.cons (.c (.int 8)) (.cons (.c (.int 16)) (.cons (.c (.int 32)) .nil))))))) (.v 7)) (.bi false .int (.cons (.cmp .isin (.tup (.cons (.v 5) (.cons (.v 7) .nil))) (.v 3)) .nil)))))
   .nil)
def lpO : CB := (.cons (.asg (.nm 6) (.c (.int 0)))
  (.cons (.for_ (.nm 7) (.rng1 (.c (.int 6))) lpI)
  (.cons (.ex (.mt false .append (.v 4) (.cons (.v 6) .nil)))
  .nil)))
def r3 : CB := (.cons (.asg (.nm 2) (.call false 8 (.cons (.v 0) (.cons (.c (.int 1)) .nil)) []))
 (.cons (.ite (.cmp .gt (.bin false .mod (.v 2) (.c (.int 3))) (.c (.int 0))) (.cons (.ret (.c (.bool true)))
  .nil) .nil)
 (.cons (.asg (.nm 11) (.bin false .add (.c (.int 1)) (.bin false .mod (.bin false .fdiv (.v 2) (.c (.int 24))) (.bin false .pow (.c (.int 10)) (.c (.int 18))))))
 (.cons (.asg (.nm 12) (.ix (.lst false (.cons (.tup (.cons (.bin false .add (.bin false .sub (.v 1) (.c (.int 1))) (.v 11)) (.cons (.c (.int 0)) .nil))) (.cons (.tup (.cons (.c (.int 0)) (.cons (.bin false .add (.c (.int 5)) (.v 11)) .nil))) (.cons (.tup (.cons (.bin false .sub (.c (.int 0)) (.v 11)) (.cons (.c (.int 0)) .nil))) (.cons (.tup (.cons (.c (.int 0)) (.cons (.bin false .sub (.c (.int 0)) (.v 11)) .nil))) .nil))))) (.bin false .mod (.bin false .fdiv (.v 2) (.c (.int 3))) (.c (.int 4)))))
 (.cons (.ex (.mt false .insert (.v 3) (.cons (.bin false .mod (.bin false .fdiv (.v 2) (.c (.int 12))) (.bin false .add (.bi false .len (.cons (.v 3) .nil)) (.c (.int 1)))) (.cons (.v 12) .nil))))
 (.cons (.ret (.and (.call false 10 (.cons (.v 1) (.cons (.v 3) .nil)) []) (.and (.call false 10 (.cons (.v 1) (.cons (.bi false .list (.cons (.v 3) .nil)) .nil)) []) (.cmp .eq (.call false 6 (.cons (.v 1) (.cons (.slc false (.v 10) .skip (.neg (.c (.int 1)))) .nil)) []) (.v 9)))))
 .nil))))))
def r2 : CB := (.cons (.asg (.nm 8) (.bi true .list (.cons (.v 3) .nil)))
 (.cons (.asg (.nm 9) (.call false 6 (.cons (.v 1) (.cons (.v 8) .nil)) []))
 (.cons (.ite (.or (.not (.bi false .istuple (.cons (.v 9) .nil))) (.or (.cmp .ne (.v 9) (.bi false .tuple (.cons (.v 4) .nil))) (.cmp .ne (.v 8) (.v 3)))) (.cons (.ret (.c (.bool false)))
  .nil) .nil)
 (.cons (.ex (.mt false .append (.v 8) (.cons (.tup (.cons (.c (.int 0)) (.cons (.c (.int 0)) .nil))) .nil)))
 (.cons (.asg (.nm 10) (.call true 7 (.cons (.v 9) .nil) []))
 (.cons (.ite (.or (.not (.bi false .islist (.cons (.v 10) .nil))) (.or (.cmp .ne (.v 10) (.bi false .sortset (.cons (.v 3) .nil))) (.cmp .ne (.call false 6 (.cons (.v 1) (.cons (.v 10) .nil)) []) (.v 9)))) (.cons (.ret (.c (.bool false)))
  .nil) .nil)
 (.cons (.ex (.mt false .append (.v 10) (.cons (.tup (.cons (.c (.int 0)) (.cons (.c (.int 5)) .nil))) .nil)))
 (.cons (.ite (.cmp .ne (.call false 7 (.cons (.v 9) .nil) []) (.bi false .sortset (.cons (.v 3) .nil))) (.cons (.ret (.c (.bool false)))
  .nil) .nil)
 r3))))))))
theorem b11_eq : b11 = (.cons (.asg (.nm 1) (.bin false .add (.c (.int 1)) (.bin false .mod (.call false 8 (.cons (.v 0) (.cons (.c (.int 0)) .nil)) []) (.c (.int 6)))))
 (.cons (.asg (.nm 3) cP)
 (.cons (.asg (.nm 4) (.lst true .nil))
 (.cons (.for_ (.nm 5) (.rng1 (.v 1)) lpO)
 r2)))) := rfl
structure Kt (C : Cn) (n : Nat) : Prop where
  tab : ∀ T zs, zs.length ≤ 1000 → ∀ u, LsU T u (zsD zs) → (∀ z ∈ zs, OkZ n z) → callP C [] 6 [.d (.int n), u] T = .ok (.d (.tuple (nD (tbl n zs)))) T
  no : ∀ T zs, zs.length ≤ 1000 → ∀ u, LsU T u (zsD zs) → (∃ z ∈ zs, ¬ OkZ n z) → callP C [] 10 [.d (.int n), u] T = .ok (.d (.bool true)) T
  prs : ∀ T tb, tb.length ≤ 100 → C.call [] 7 [.d (.tuple (nD tb))] T = .ok (.ref T.length) (T ++ [.lst (zsD (prs tb))])
  prsP : ∀ T tb, tb.length ≤ 100 → callP C [] 7 [.d (.tuple (nD tb))] T = .ok (.d (.list (zsD (Lk12.prs tb)))) T
theorem sortset_ok {O T : Cs} {r : Nat} {zs : Zs} (h : getC O T r = some (.lst (zsD zs))) (hl : zs.length < 64) (hz : ∀ z ∈ zs, SmP z) : sortsetB O false T (.ref r) = .ok (.d (.list (zsD (sortP zs)))) T := by
  have hp : ∀ ws : Zs, (∀ z ∈ ws, SmP z) → pairsOf (zsD ws) = some ws := by
    intro ws
    induction ws with
    | nil => intro _; rfl
    | cons w ws ih =>
      intro hw
      show pairsOf (.tuple [.int w.1, .int w.2] :: zsD ws) = _
      unfold pairsOf
      have hb : 0 ≤ w.1 ∧ w.1 < 64 ∧ 0 ≤ w.2 ∧ w.2 < 64 := hw w List.mem_cons_self
      rw [if_pos hb, ih fun z hz => hw z (List.mem_cons_of_mem _ hz)]
      rfl
  unfold sortsetB
  rw [seqL_ref, h]
  simp only [Option.bind_some, allD_map, hp zs hz]
  rw [if_pos hl]
  show mkL O false ((sortP zs).map (U.d ∘ pairD)) T = _
  rw [← List.map_map, mkL_map]
  rfl
theorem w6 {o : Nat} (ho : o < 6) : L2.atI [PyData.int 1, .int 2, .int 4, .int 8, .int 16, .int 32] (o : Int) = some (.int (2 ^ o)) := by
  have : o = 0 ∨ o = 1 ∨ o = 2 ∨ o = 3 ∨ o = 4 ∨ o = 5 := by omega
  rcases this with rfl | rfl | rfl | rfl | rfl | rfl <;> rfl
theorem b6w {o : Nat} (ho : o < 6) : -18446744073709551616 < (2 : Int) ^ o ∧ (2 : Int) ^ o < 18446744073709551616 := by
  have : o = 0 ∨ o = 1 ∨ o = 2 ∨ o = 3 ∨ o = 4 ∨ o = 5 := by omega
  rcases this with rfl | rfl | rfl | rfl | rfl | rfl <;> decide
section
variable {C : Cn} {T : Cs} {u0 u1 u2 x8 x9 x10 x11 x12 : Option U} {fI oI d0 w : Int} {bb : Bool}
def frD (u0 u1 u2 x8 x9 x10 x11 x12 : Option U) (fI oI d0 : Int) : Rho := [u0, u1, u2, some (.ref 0), some (.ref 1), some (.d (.int fI)), some (.d (.int d0)), some (.d (.int oI)), x8, x9, x10, x11, x12]
def wE : CE := (.tup (.cons (.c (.int 1)) (.cons (.c (.int 2)) (.cons (.c (.int 4)) (.cons (.c (.int 8)) (.cons (.c (.int 16)) (.cons (.c (.int 32)) .nil)))))))
theorem tA (hw : L2.atI [PyData.int 1, .int 2, .int 4, .int 8, .int 16, .int 32] oI = some (.int w)) : den C [] (frD u0 u1 u2 x8 x9 x10 x11 x12 fI oI d0) (.ix wE (.v 7)) T = .ok (.d (.int w)) T := by
  unfold frD wE
  simp [hw]
theorem tB (hin : cmpU [] .isin (.d (.tuple [.int fI, .int oI])) (.ref 0) T = some bb) : den C [] (frD u0 u1 u2 x8 x9 x10 x11 x12 fI oI d0) (.bi false .int (.cons (.cmp .isin (.tup (.cons (.v 5) (.cons (.v 7) .nil))) (.v 3)) .nil)) T = .ok (.d (.int (if bb = true then 1 else 0))) T := by
  unfold frD
  simp [hin]
theorem tC {ρ : Rho} {a b : CE} {i j : Int} (ha : den C [] ρ a T = .ok (.d (.int i)) T) (hb : den C [] ρ b T = .ok (.d (.int j)) T) (hm : mulOk i j = true) : den C [] ρ (.bin false .mul a b) T = .ok (.d (.int (i * j))) T := by
  simp [ha, hb, hm]
theorem tD {ρ : Rho} {a b : CE} {i j : Int} (ha : den C [] ρ a T = .ok (.d (.int i)) T) (hb : den C [] ρ b T = .ok (.d (.int j)) T) : den C [] ρ (.bin false .add a b) T = .ok (.d (.int (i + j))) T := by
  simp [ha, hb]
end
section
variable {C : Cn} {n : Nat}
theorem lpO_ok (n6 : n ≤ 6) (zs : Zs) (f : Nat) (hf : f < n) (u0 u1 u2 x6 x7 x8 x9 x10 x11 x12 : Option U) (nx bk ct : Rho → Cs → Prop) (rt : U → Cs → Prop)
    (hN : ∀ y6 y7 : Option U, nx [u0, u1, u2, some (.ref 0), some (.ref 1), some (.d (.int (f : Nat))), y6, y7, x8, x9, x10, x11, x12] [.lst (zsD zs), .lst (nD ((tbl n zs).take (f + 1)))]) :
    Wp (denB C [] lpO [u0, u1, u2, some (.ref 0), some (.ref 1), some (.d (.int (f : Nat))), x6, x7, x8, x9, x10, x11, x12] [.lst (zsD zs), .lst (nD ((tbl n zs).take f))]) nx bk ct rt := by
  unfold lpO
  obtain ⟨T, hT⟩ : ∃ T : Cs, T = [.lst (zsD zs), .lst (nD ((tbl n zs).take f))] := ⟨_, rfl⟩
  have g0 : getC [] T 0 = some (.lst (zsD zs)) := by rw [hT]; rfl
  have g1 : getC [] T 1 = some (.lst (nD ((tbl n zs).take f))) := by rw [hT]; rfl
  have happ := app_at (O := []) (T := T) (.int ((gm (bt zs f) : Nat) : Int)) g1 (by simp [tbl_len]; omega) (Nat.zero_le _)
  have hst : nD ((tbl n zs).take (f + 1)) = nD ((tbl n zs).take f) ++ [.int ((gm (bt zs f) : Nat) : Int)] := by
    rw [List.take_add_one, tbl_get hf, nD_app]
    rfl
  have hT2 : T.set (1 - ([] : Cs).length) (.lst (nD ((tbl n zs).take f) ++ [.int ((gm (bt zs f) : Nat) : Int)])) = [.lst (zsD zs), .lst (nD ((tbl n zs).take (f + 1)))] := by
    rw [hst, hT]
    rfl
  rw [hT2] at happ
  have hin := fun o => isin_zs g0 f o
  rw [← hT]
  clear hT hT2 hst
  have ty1 : tyU [] T (.ref 1) = some .list := by rw [tyU_ref, g1]
  generalize hfI : (f : Int) = fI at *
  refine st_asg (u := .d (.int (dsum (bt zs f) 0))) (T' := T) (by simp [dsum]) ?_
  show Wp (denB C [] _ [u0, u1, u2, some (.ref 0), some (.ref 1), some (.d (.int fI)), some (.d (.int (dsum (bt zs f) 0))), x7, x8, x9, x10, x11, x12] T) _ _ _ _
  refine st_for ⟨rngU 0 6 1, none, T⟩ T (fun o ρ T' => T' = T ∧ ∃ y7 : Option U, ρ = [u0, u1, u2, some (.ref 0), some (.ref 1), some (.d (.int fI)), some (.d (.int (dsum (bt zs f) o))), y7, x8, x9, x10, x11, x12]) ?_ ⟨rfl, _, rfl⟩ (fun _ _ _ _ => rfl) ?_ ?_
  · exact rng1_ok (z := 6) (by simp) (by unfold rngOk; decide) rfl
  · rintro o uu hu ρ T' ⟨rfl, y7, rfl⟩
    obtain ⟨ho, rfl⟩ := rngU_get hu
    obtain ⟨oI, hoI⟩ : ∃ oI : Int, oI = (o : Int) := ⟨_, rfl⟩
    have hw0 : (0 + ((o : Nat) : Int) * 1) = oI := by omega
    rw [hw0]
    refine ⟨_, rfl, ?_⟩
    unfold lpI
    have hin := hin o
    rw [← hoI] at hin
    have hw := w6 ho
    rw [← hoI] at hw
    have hb := b6w ho
    have hm : ∀ j : Int, mulOk (2 ^ o) j = true := fun j => mul_okL hb
    refine st_asg (u := .d (.int (dsum (bt zs f) (o + 1)))) (T' := T') ?_ (st_nil ⟨rfl, _, rfl⟩)
    show _ = R.ok (U.d (.int (dsum (bt zs f) o + 2 ^ o * (if bt zs f o = true then 1 else 0)))) T'
    generalize dsum (bt zs f) o = d0 at *
    generalize bt zs f o = bb at *
    generalize (2 : Int) ^ o = w at *
    exact tD (by rw [den_v]; rfl) (tC (tA (u0 := u0) (u1 := u1) (u2 := u2) (x8 := x8) (x9 := x9) (x10 := x10) (x11 := x11) (x12 := x12) (fI := fI) (d0 := d0) hw) (tB (u0 := u0) (u1 := u1) (u2 := u2) (x8 := x8) (x9 := x9) (x10 := x10) (x11 := x11) (x12 := x12) (d0 := d0) hin) (hm _))
  · rintro ρ T' ⟨rfl, y7, rfl⟩
    simp only [rngU_len]
    rw [dsum_gm]
    generalize ((gm (bt zs f) : Nat) : Int) = mI at *
    refine st_ex (u := .d .none) ?_ (st_nil (hN _ _))
    simp [ty1, -tyU_ref, -appU_eq, happ]
end
end Lk12

set_option Elab.async false
set_option linter.all false
set_option maxRecDepth 100000
set_option maxHeartbeats 4000000
namespace Lk12
open PySem Y Y.S
theorem biU_sortset (O T : Cs) (l : Bool) (us : List U) : biU O l .sortset us T = one us (sortsetB O l T) := rfl
theorem den_mtE {C : Cn} {O T T1 T2 : Cs} {ρ : Rho} {l : Bool} {m : MT} {o : CE} {as : CA} {x : U} {us : List U} {r : R U} (ho : den C O ρ o T = .ok x T1) (ht : tyU O T1 x = some (mtTy m)) (ha : denA C O ρ as T1 = .ok us T2) (hm : mtU O l m x us T2 = r) : den C O ρ (.mt l m o as) T = r := by
  rw [den_mt, ho, R.bind_ok, if_pos ht, ha, R.bind_ok]
  exact hm
theorem list_ref {T : Cs} {r : Nat} {ds : List D} (h : getC [] T r = some (.lst ds)) : listB [] false T (.ref r) = .ok (.d (.list ds)) T := by
  have e1 : seqA [] T (.ref r) = some (ds.map .d) := by
    unfold seqA
    rw [seqL_ref, h]
  unfold listB
  rw [e1]
  simp only
  rw [mkL_map]
theorem slc_ref {T : Cs} {r : Nat} {ds : List D} {x : D} (h : getC [] T r = some (.lst (ds ++ [x]))) : slcU [] false (.ref r) none (some (-1)) T = .ok (.d (.list ds)) T := by
  unfold slcU
  rw [seqL_ref, h]
  simp only
  rw [cut_map, cut_m1, mkL_map]
def st4 (zs : Zs) (A B S : List D) : Cs := [.lst (zsD zs), .lst A, .lst B, .lst S]
section
variable {C : Cn} {n : Nat}
theorem r3_ok (K : Kt C n) (n1 : 1 ≤ n) (n6 : n ≤ 6) (zs : Zs) (hl : zs.length ≤ 63) (hz : ∀ z ∈ zs, OkZ n z) (ua : U) (hcell : ∀ T, ∃ w : Int, callP C [] 8 [ua, .d (.int 1)] T = .ok (.d (.int w)) T) (A B : List D) (x2 x5 x6 x7 x11 x12 : Option U) :
    Wp (denB C [] r3 [some ua, some (.d (.int (n : Nat))), x2, some (.ref 0), some (.ref 1), x5, x6, x7, some (.ref 2), some (.d (.tuple (nD (tbl n zs)))), some (.ref 3), x11, x12] (st4 zs A B (zsD (sortP zs) ++ [pairD (0, 5)]))) (fun _ _ => False) (fun _ _ => False) (fun _ _ => False) (fun u _ => u = .d (.bool true)) := by
  obtain ⟨T, hT⟩ : ∃ T : Cs, T = st4 zs A B (zsD (sortP zs) ++ [pairD (0, 5)]) := ⟨_, rfl⟩
  obtain ⟨w, hw⟩ := hcell T
  have g0 : getC [] T 0 = some (.lst (zsD zs)) := by rw [hT]; rfl
  rw [← hT]
  unfold r3
  refine st_asg (u := .d (.int w)) (T' := T) (den_cP (dA2 (u := ua) (v := .d (.int 1)) (by rw [den_v]; rfl) (by rw [den_c])) hw) ?_
  show Wp (denB C [] _ [some ua, some (.d (.int (n : Nat))), some (.d (.int w)), some (.ref 0), some (.ref 1), x5, x6, x7, some (.ref 2), some (.d (.tuple (nD (tbl n zs)))), some (.ref 3), x11, x12] T) _ _ _ _
  refine st_ite (decide (0 < w % 3)) (T' := T) (by simp) ?_
  by_cases hw3 : 0 < w % 3
  · rw [if_pos (by simpa using hw3)]
    exact st_ret (u := .d (.bool true)) (T' := T) (by rw [den_c]) rfl
  rw [if_neg (by simpa using hw3)]
  have p18 : (10 : Int) ^ 18 = 1000000000000000000 := by decide
  have hf0 := Int.emod_nonneg (w / 24) (show (1000000000000000000 : Int) ≠ 0 by decide)
  obtain ⟨far, hfar⟩ : ∃ far : Int, far = 1 + w / 24 % 1000000000000000000 := ⟨_, rfl⟩
  have hf1 : 1 ≤ far := by omega
  refine st_nil (st_asg (u := .d (.int far)) (T' := T) (by simp [p18, hfar]) ?_)
  show Wp (denB C [] _ [some ua, some (.d (.int (n : Nat))), some (.d (.int w)), some (.ref 0), some (.ref 1), x5, x6, x7, some (.ref 2), some (.d (.tuple (nD (tbl n zs)))), some (.ref 3), some (.d (.int far)), x12] T) _ _ _ _
  have hj0 := Int.emod_nonneg (w / 3) (show (4 : Int) ≠ 0 by decide)
  have hj1 := Int.emod_lt_of_pos (w / 3) (show (0 : Int) < 4 by decide)
  have hwr : ∃ z : Int × Int, ¬ OkZ n z ∧ L2.atI [PyData.tuple [.int ((n : Int) - 1 + far), .int 0], .tuple [.int 0, .int (5 + far)], .tuple [.int (-far), .int 0], .tuple [.int 0, .int (-far)]] (w / 3 % 4) = some (pairD z) := by
    generalize w / 3 % 4 = j at *
    have : j = 0 ∨ j = 1 ∨ j = 2 ∨ j = 3 := by omega
    unfold OkZ
    rcases this with rfl | rfl | rfl | rfl
    · exact ⟨((n : Int) - 1 + far, 0), by simp only; omega, rfl⟩
    · exact ⟨(0, 5 + far), by simp only; omega, rfl⟩
    · exact ⟨(-far, 0), by simp only; omega, rfl⟩
    · exact ⟨(0, -far), by simp only; omega, rfl⟩
  obtain ⟨z, hz1, hz2⟩ := hwr
  refine st_asg (u := .d (pairD z)) (T' := T) ?_ ?_
  · generalize pairD z = pz at *
    generalize (n : Int) = nI at *
    generalize tbl n zs = tb at *
    generalize nD tb = tD at *
    simp [hz2]
  show Wp (denB C [] _ [some ua, some (.d (.int (n : Nat))), some (.d (.int w)), some (.ref 0), some (.ref 1), x5, x6, x7, some (.ref 2), some (.d (.tuple (nD (tbl n zs)))), some (.ref 3), some (.d (.int far)), some (.d (pairD z))] T) _ _ _ _
  have hi0 := Int.emod_nonneg (w / 12) (show ((zs.length : Int) + 1) ≠ 0 by omega)
  have hi1 := Int.emod_lt_of_pos (w / 12) (show 0 < ((zs.length : Int) + 1) by omega)
  obtain ⟨i, hi⟩ : ∃ i : Int, i = w / 12 % ((zs.length : Int) + 1) := ⟨_, rfl⟩
  rw [← hi] at hi0 hi1
  obtain ⟨ws, hws⟩ : ∃ ws : Zs, ws = zs.take i.toNat ++ [z] ++ zs.drop i.toNat := ⟨_, rfl⟩
  have hwsD : (zsD zs).take i.toNat ++ [pairD z] ++ (zsD zs).drop i.toNat = zsD ws := by
    rw [hws]
    unfold zsD
    simp [List.map_take, List.map_drop]
  have hwl : ws.length ≤ 1000 := by
    rw [hws]
    simp
    omega
  have hzw : ∃ y ∈ ws, ¬ OkZ n y := ⟨z, by rw [hws]; simp, hz1⟩
  obtain ⟨T2, hT2⟩ : ∃ T2 : Cs, T2 = st4 ws A B (zsD (sortP zs) ++ [pairD (0, 5)]) := ⟨_, rfl⟩
  have hins : mtU [] false .insert (.ref 0) [.d (.int i), .d (pairD z)] T = .ok (.d .none) T2 := by
    have hlz : (zsD zs).length = zs.length := by simp [zsD]
    have hlT : 0 < T.length := by rw [hT]; simp [st4]
    unfold mtU
    simp only [g0]
    rw [if_pos (by simp [Y.sizeOk, hlz]; omega), hwsD]
    unfold setC
    rw [if_pos ⟨Nat.zero_le _, by simpa using hlT⟩, hT, hT2]
    rfl
  have ty0 : tyU [] T (.ref 0) = some .list := by rw [tyU_ref, g0]
  have hlb : lenB [] T (.ref 0) = .ok (.d (.int (zs.length : Nat))) T := by rw [lenB_ref g0]; simp [zsD]
  have g0' : getC [] T2 0 = some (.lst (zsD ws)) := by rw [hT2]; rfl
  have g3' : getC [] T2 3 = some (.lst (zsD (sortP zs) ++ [pairD (0, 5)])) := by rw [hT2]; rfl
  have hli := list_ref g0'
  have hsl := slc_ref g3'
  have h1 := K.no T2 ws hwl (.ref 0) (.inr ⟨0, rfl, by rw [hT2]; rfl⟩) hzw
  have h2 := K.no T2 ws hwl (.d (.list (zsD ws))) (.inl rfl) hzw
  have hsz : ∀ y ∈ sortP zs, OkZ n y := fun y hy => hz y ((sort_mem n6 hz y).mp hy)
  have hsl2 := sort_len n6 hz
  have h3 := K.tab T2 (sortP zs) (by omega) (.d (.list (zsD (sortP zs)))) (.inl rfl) hsz
  rw [tbl_congr (sort_mem n6 hz)] at h3
  have hcm : cmpU [] .eq (.d (.tuple (nD (tbl n zs)))) (.d (.tuple (nD (tbl n zs)))) T2 = some true := by rw [cmp_eqT]; simp
  refine st_ex (u := .d .none) (T' := T2) (den_mtE (x := .ref 0) (us := [.d (.int i), .d (pairD z)]) (T1 := T) (T2 := T) (by rw [den_v]; rfl) ty0 (dA2 ?_ (by rw [den_v]; rfl)) hins) ?_
  · rw [hi]
    have hp : 0 < (zs.length : Int) + 1 := by omega
    clear hi0 hi1 hi hins
    generalize (zs.length : Int) = ln at *
    generalize pairD z = pz at *
    generalize (n : Int) = nI at *
    generalize nD (tbl n zs) = tD at *
    simp [hlb, hp]
  clear hw hz2 hins hlb hwsD hT hT2 hws ty0
  generalize pairD z = pz at *
  generalize (n : Int) = nI at *
  generalize nD (tbl n zs) = tD at *
  generalize zsD ws = wD at *
  generalize zsD (sortP zs) = sD at *
  refine st_ret (u := .d (.bool true)) (T' := T2) ?_ rfl
  refine den_andB (p := true) (q := true) (den_cP (dA2 (u := .d (.int nI)) (v := .ref 0) (by rw [den_v]; rfl) (by rw [den_v]; rfl)) h1) (den_andB (p := true) (q := true) (den_cP (dA2 (u := .d (.int nI)) (v := .d (.list wD)) (by rw [den_v]; rfl) ?_) h2) ?_)
  · simp [hli]
  · have hv : den C [] [some ua, some (.d (.int nI)), some (.d (.int w)), some (.ref 0), some (.ref 1), x5, x6, x7, some (.ref 2), some (.d (.tuple tD)), some (.ref 3), some (.d (.int far)), some (.d pz)] (.v 9) T2 = .ok (.d (.tuple tD)) T2 := by rw [den_v]; rfl
    rw [den_cmp, den_cP (dA2 (u := .d (.int nI)) (v := .d (.list sD)) (by rw [den_v]; rfl) (by simp [isSkip_neg, hsl])) h3, R.bind_ok, hv, R.bind_ok, hcm]
theorem r2_ok (K : Kt C n) (n1 : 1 ≤ n) (n6 : n ≤ 6) (zs : Zs) (hl : zs.length ≤ 63) (hz : ∀ z ∈ zs, OkZ n z) (ua : U) (hcell : ∀ T, ∃ w : Int, callP C [] 8 [ua, .d (.int 1)] T = .ok (.d (.int w)) T) (x2 x5 x6 x7 x8 x9 x10 x11 x12 : Option U) :
    Wp (denB C [] r2 [some ua, some (.d (.int (n : Nat))), x2, some (.ref 0), some (.ref 1), x5, x6, x7, x8, x9, x10, x11, x12] [.lst (zsD zs), .lst (nD (tbl n zs))]) (fun _ _ => False) (fun _ _ => False) (fun _ _ => False) (fun u _ => u = .d (.bool true)) := by
  have hr3 := fun A B x2 x5 x6 x7 x11 x12 => r3_ok K n1 n6 zs hl hz ua hcell A B x2 x5 x6 x7 x11 x12
  obtain ⟨T1, hT1⟩ : ∃ T1 : Cs, T1 = [.lst (zsD zs), .lst (nD (tbl n zs)), .lst (zsD zs)] := ⟨_, rfl⟩
  obtain ⟨T2, hT2⟩ : ∃ T2 : Cs, T2 = [.lst (zsD zs), .lst (nD (tbl n zs)), .lst (zsD zs ++ [pairD (0, 0)])] := ⟨_, rfl⟩
  obtain ⟨T3, hT3⟩ : ∃ T3 : Cs, T3 = st4 zs (nD (tbl n zs)) (zsD zs ++ [pairD (0, 0)]) (zsD (sortP zs)) := ⟨_, rfl⟩
  obtain ⟨T4, hT4⟩ : ∃ T4 : Cs, T4 = st4 zs (nD (tbl n zs)) (zsD zs ++ [pairD (0, 0)]) (zsD (sortP zs) ++ [pairD (0, 5)]) := ⟨_, rfl⟩
  have hlz : (zsD zs).length = zs.length := by simp [zsD]
  have hps := prs_sorted n6 hz
  have hsl2 := sort_len n6 hz
  have hslz : (zsD (sortP zs)).length = (sortP zs).length := by simp [zsD]
  have hsm : ∀ z ∈ zs, SmP z := fun z h => by obtain ⟨h1, h2, h3, h4⟩ := hz z h; exact ⟨h1, by omega, h3, by omega⟩
  have hsz : ∀ y ∈ sortP zs, OkZ n y := fun y hy => hz y ((sort_mem n6 hz y).mp hy)
  -- the calls
  have c9 := K.tab T1 zs (by omega) (.ref 2) (.inr ⟨2, rfl, by rw [hT1]; rfl⟩) hz
  have c10 := K.prs T2 (tbl n zs) (by rw [tbl_len]; omega)
  rw [hps] at c10
  have h23 : T2 ++ [.lst (zsD (sortP zs))] = T3 := by rw [hT2, hT3]; rfl
  have hlen2 : T2.length = 3 := by rw [hT2]; rfl
  rw [h23, hlen2] at c10
  have c6 := K.tab T3 (sortP zs) (by omega) (.ref 3) (.inr ⟨3, rfl, by rw [hT3]; rfl⟩) hsz
  rw [tbl_congr (sort_mem n6 hz)] at c6
  have c7 := K.prsP T4 (tbl n zs) (by rw [tbl_len]; omega)
  rw [hps] at c7
  -- what is compared
  have g3 : getC [] T3 3 = some (.lst (zsD (sortP zs))) := by rw [hT3]; rfl
  have m1 : ∀ T, cmpU [] .ne (.d (.tuple (nD (tbl n zs)))) (.d (.tuple (nD (tbl n zs)))) T = some false := fun T => by rw [cmp_neT]; simp
  have m2 := (cmp_same (O := []) (T := T1) (x := .ref 2) (y := .ref 0) (d := .list (zsD zs)) (by rw [hT1]; rfl) (by rw [hT1]; rfl) ((lay_zs zs).shp (by decide)) (noB_zs zs)).2
  have m3 := (cmp_same (O := []) (T := T3) (x := .ref 3) (y := .d (.list (zsD (sortP zs)))) (d := .list (zsD (sortP zs))) (by rw [toD_refS, g3]) (toD_d ..) ((lay_zs _).shp (by decide)) (noB_zs _)).2
  have m4 := (cmp_same (O := []) (T := T4) (x := .d (.list (zsD (sortP zs)))) (y := .d (.list (zsD (sortP zs)))) (d := .list (zsD (sortP zs))) (toD_d ..) (toD_d ..) ((lay_zs _).shp (by decide)) (noB_zs _)).2
  have s3 := sortset_ok (O := []) (T := T3) (r := 0) (zs := zs) (by rw [hT3]; rfl) (by omega) hsm
  have s4 := sortset_ok (O := []) (T := T4) (r := 0) (zs := zs) (by rw [hT4]; rfl) (by omega) hsm
  have t4 : tupleB [] T1 (.ref 1) = .ok (.d (.tuple (nD (tbl n zs)))) T1 := by
    unfold tupleB
    rw [seqL_ref, show getC [] T1 1 = some (.lst (nD (tbl n zs))) by rw [hT1]; rfl]
    simp only
    unfold mkT
    rw [allD_map]
  have hl8 : listB [] true [.lst (zsD zs), .lst (nD (tbl n zs))] (.ref 0) = .ok (.ref 2) T1 := by
    unfold listB
    have e1 : seqA [] [Cell.lst (zsD zs), .lst (nD (tbl n zs))] (.ref 0) = some ((zsD zs).map .d) := rfl
    rw [e1]
    simp only
    unfold mkL
    rw [if_pos rfl, cellOf_map, hT1]
    rfl
  have a8 : appU [] 2 (.d (pairD (0, 0))) T1 = .ok (.d .none) T2 := by
    rw [app_at (O := []) (T := T1) (j := 2) (ds := zsD zs) _ (by rw [hT1]; rfl) (by omega) (Nat.zero_le _), hT1, hT2]
    rfl
  have a10 : appU [] 3 (.d (pairD (0, 5))) T3 = .ok (.d .none) T4 := by
    rw [app_at (O := []) (T := T3) (j := 3) (ds := zsD (sortP zs)) _ g3 (by omega) (Nat.zero_le _), hT3, hT4]
    rfl
  have y8 : tyU [] T1 (.ref 2) = some .list := by rw [hT1]; rfl
  have y10 : tyU [] T3 (.ref 3) = some .list := by rw [hT3]; rfl
  have hr4 := fun x2 x5 x6 x7 x11 x12 => hr3 (nD (tbl n zs)) (zsD zs ++ [pairD (0, 0)]) x2 x5 x6 x7 x11 x12
  rw [← hT4] at hr4
  clear hr3
  have pp0 : ∀ T (ρ : Rho), den C [] ρ (.tup (.cons (.c (.int 0)) (.cons (.c (.int 0)) .nil))) T = .ok (.d (pairD (0, 0))) T := fun T ρ => by
    show _ = R.ok (U.d (.tuple [.int 0, .int 0])) T
    simp
  have pp5 : ∀ T (ρ : Rho), den C [] ρ (.tup (.cons (.c (.int 0)) (.cons (.c (.int 5)) .nil))) T = .ok (.d (pairD (0, 5))) T := fun T ρ => by
    show _ = R.ok (U.d (.tuple [.int 0, .int 5])) T
    simp
  have iT : ∀ T, isB [] T .tuple (.d (.tuple (nD (tbl n zs)))) = .ok (.d (.bool true)) T := fun T => rfl
  have iL : isB [] T3 .list (.ref 3) = .ok (.d (.bool true)) T3 := by
    unfold isB
    rw [y10]
    rfl
  clear hT1 hT2 hT3 hT4 h23 hlz hslz hps hsl2 g3
  unfold r2
  generalize r3 = R3 at *
  refine st_asg (u := .ref 2) (T' := T1) (by simp [hl8]) ?_
  show Wp (denB C [] _ [some ua, some (.d (.int (n : Nat))), x2, some (.ref 0), some (.ref 1), x5, x6, x7, some (.ref 2), x9, x10, x11, x12] T1) _ _ _ _
  refine st_asg (u := .d (.tuple (nD (tbl n zs)))) (T' := T1) (den_cP (dA2 (u := .d (.int (n : Nat))) (v := .ref 2) (by rw [den_v]; rfl) (by rw [den_v]; rfl)) c9) ?_
  show Wp (denB C [] _ [some ua, some (.d (.int (n : Nat))), x2, some (.ref 0), some (.ref 1), x5, x6, x7, some (.ref 2), some (.d (.tuple (nD (tbl n zs)))), x10, x11, x12] T1) _ _ _ _
  generalize nD (tbl n zs) = tD at *
  generalize pairD (0, 0) = p0 at *
  generalize pairD (0, 5) = p5 at *
  generalize (n : Int) = nI at *
  refine st_ite false (T' := T1) ?_ (st_nil ?_)
  · simp [iT, t4, m1, m2, -tupleB_ref]
  refine st_ex (u := .d .none) (T' := T2) (den_mtE (x := .ref 2) (us := [.d p0]) (T1 := T1) (T2 := T1) (by rw [den_v]; rfl) y8 (dA1 (pp0 _ _)) (by rw [mtU_append]; exact a8)) ?_
  refine st_asg (u := .ref 3) (T' := T3) (by simp [c10]) ?_
  show Wp (denB C [] _ [some ua, some (.d (.int nI)), x2, some (.ref 0), some (.ref 1), x5, x6, x7, some (.ref 2), some (.d (.tuple tD)), some (.ref 3), x11, x12] T3) _ _ _ _
  generalize zsD (sortP zs) = sD at *
  refine st_ite false (T' := T3) ?_ (st_nil ?_)
  · have b1 : den C [] [some ua, some (.d (.int nI)), x2, some (.ref 0), some (.ref 1), x5, x6, x7, some (.ref 2), some (.d (.tuple tD)), some (.ref 3), x11, x12] (.call false 6 (.cons (.v 1) (.cons (.v 10) .nil)) []) T3 = .ok (.d (.tuple tD)) T3 := den_cP (dA2 (u := .d (.int nI)) (v := .ref 3) (by rw [den_v]; rfl) (by rw [den_v]; rfl)) c6
    generalize (CE.call false 6 (.cons (.v 1) (.cons (.v 10) .nil)) []) = cc at *
    simp [y10, -tyU_ref, biU_sortset, s3, m3, b1, m1]
  refine st_ex (u := .d .none) (T' := T4) (den_mtE (x := .ref 3) (us := [.d p5]) (T1 := T3) (T2 := T3) (by rw [den_v]; rfl) y10 (dA1 (pp5 _ _)) (by rw [mtU_append]; exact a10)) ?_
  refine st_ite false (T' := T4) ?_ (st_nil (hr4 _ _ _ _ _ _))
  have b2 : den C [] [some ua, some (.d (.int nI)), x2, some (.ref 0), some (.ref 1), x5, x6, x7, some (.ref 2), some (.d (.tuple tD)), some (.ref 3), x11, x12] (.call false 7 (.cons (.v 9) .nil) []) T4 = .ok (.d (.list sD)) T4 := den_cP (dA1 (u := .d (.tuple tD)) (by rw [den_v]; rfl)) c7
  generalize (CE.call false 7 (.cons (.v 9) .nil) []) = cc at *
  simp [b2, biU_sortset, s4, m4]
end
theorem kt (N n : Nat) (n6 : n ≤ 6) : Kt (cn G (N + 3)) n where
  tab := fun T zs hl u hu hz => (table_x (N + 2) [] T n n6 zs hl u hu).1 hz
  no := fun T zs hl u hu hz => refused_c (N + 1) [] T n n6 zs hl u hu hz
  prs := fun T tb hl => by
    have := pairs_run (N + 1) [] T tb hl
    simpa using this
  prsP := fun T tb hl => by
    have := pairs_run (N + 1) ([] ++ T) [] tb hl
    exact callP_l this (by simp) (by simp)
theorem cP_ok (C : Cn) (ns : List Int) (hl : ns.length ≤ 63) (nI : Int) (n0 : 0 < nI) (ua : U) (hua : ua = .d (.list (ns.map .int))) (x2 x3 x4 x5 x6 x7 x8 x9 x10 x11 x12 : Option U) : den C [] [some ua, some (.d (.int nI)), x2, x3, x4, x5, x6, x7, x8, x9, x10, x11, x12] cP [] = .ok (.ref 0) [.lst (zsD (ns.map fun c => (c / 6 % nI, c % 6)))] := by
  unfold cP
  have h := comp_ml (C := C) (O := []) (T := []) (ρ := [some ua, some (.d (.int nI)), x2, x3, x4, x5, x6, x7, x8, x9, x10, x11, x12]) (elt := .tup (.cons (.bin false .mod (.bin false .fdiv (.v 2) (.c (.int 6))) (.v 1)) (.cons (.bin false .mod (.v 2) (.c (.int 6))) .nil))) (t := .c (.bool true)) (g := .nm 2) (it := .lst (.v 0)) (own := [2]) (us := (ns.map PyData.int).map .d) (w := none) (tt := []) (ds := zsD (ns.map fun c => (c / 6 % nI, c % 6))) ?_ (fun _ => rfl) (by simp [zsD]) ?_ (by simp; omega)
  · exact h
  · rw [denI_lst, den_v, hua]
    generalize ns.map PyData.int = CL
    simp
  · intro i u d hu hd acc
    unfold zsD at hd
    rw [List.getElem?_map, List.getElem?_map, Option.map_eq_some_iff] at hu
    obtain ⟨y', hy', rfl⟩ := hu
    rw [Option.map_eq_some_iff] at hy'
    obtain ⟨c, hc, rfl⟩ := hy'
    rw [List.getElem?_map, List.getElem?_map, hc] at hd
    simp only [Option.map_some, Option.some.injEq] at hd
    subst hd
    refine turn_all (asgT_nm _ _ _ _ _) ?_
    generalize [] ++ [Cell.lstU acc] = T1 at *
    show _ = R.ok (U.d (.tuple [.int (c / 6 % nI), .int (c % 6)])) T1
    simp [wipeR, n0]
theorem main : ∀ ns : List Int, ns.length ≤ 63 → ∃ T, Y.run G 40 [] 11 [.d (.list (ns.map .int))] [] = .ok (.d (.bool true)) T := by
  intro ns hns
  suffices hg : Gv (Y.run G 40 [] 11 [.d (.list (ns.map .int))] []) fun u T' => u = .d (.bool true) by
    obtain ⟨u, T', e, rfl⟩ := hg.ex
    exact ⟨T', e⟩
  refine run_wp (n := 39) G11 rfl (wp_mono2' ?_)
  have hcell := cell_c 38 ns hns
  obtain ⟨w, hw⟩ := hcell 0 (by decide) []
  have hcell1 := hcell 1 (by decide)
  have h0 := Int.emod_nonneg w (show (6 : Int) ≠ 0 by decide)
  have h1 := Int.emod_lt_of_pos w (show (0 : Int) < 6 by decide)
  obtain ⟨n, hn⟩ := Int.eq_ofNat_of_zero_le (show 0 ≤ 1 + w % 6 by omega)
  have n1 : 1 ≤ n := by omega
  have n6 : n ≤ 6 := by omega
  have K := kt 36 n n6
  obtain ⟨ua, hua⟩ : ∃ ua : U, ua = .d (.list (ns.map .int)) := ⟨_, rfl⟩
  rw [← hua] at hw hcell1 ⊢
  obtain ⟨zs, hzs⟩ : ∃ zs : Zs, zs = ns.map fun c => (c / 6 % (n : Int), c % 6) := ⟨_, rfl⟩
  have hzl : zs.length ≤ 63 := by rw [hzs]; simpa using hns
  have hz : ∀ z ∈ zs, OkZ n z := fun z hm => by
    rw [hzs, List.mem_map] at hm
    obtain ⟨c, _, rfl⟩ := hm
    exact ⟨Int.emod_nonneg _ (by omega), Int.emod_lt_of_pos _ (by omega), Int.emod_nonneg _ (by decide), Int.emod_lt_of_pos _ (by decide)⟩
  have hcP := fun x2 x3 x4 x5 x6 x7 x8 x9 x10 x11 x12 => cP_ok (cn G 39) ns hns (n : Int) (by omega) ua hua x2 x3 x4 x5 x6 x7 x8 x9 x10 x11 x12
  rw [← hzs] at hcP
  have hlO := fun f hf x6 x7 nx bk ct rt hN => lpO_ok (C := cn G 39) n6 zs f hf (some ua) (some (.d (.int (n : Nat)))) none x6 x7 none none none none none nx bk ct rt hN
  have hr2 := fun x2 x5 x6 x7 x8 x9 x10 x11 x12 => r2_ok K n1 n6 zs hzl hz ua hcell1 x2 x5 x6 x7 x8 x9 x10 x11 x12
  show Wp (denB (cn G 39) [] b11 [some ua, none, none, none, none, none, none, none, none, none, none, none, none] []) _ _ _ _
  rw [b11_eq]
  clear K hcell hcell1 hua hzs
  generalize cn G 39 = C at *
  refine st_asg (u := .d (.int (n : Nat))) (T' := []) ?_ ?_
  · rw [← hn]
    simp [hw]
  show Wp (denB C [] _ [some ua, some (.d (.int (n : Nat))), none, none, none, none, none, none, none, none, none, none, none] []) _ _ _ _
  refine st_asg (u := .ref 0) (T' := [.lst (zsD zs)]) (hcP ..) ?_
  show Wp (denB C [] _ [some ua, some (.d (.int (n : Nat))), none, some (.ref 0), none, none, none, none, none, none, none, none, none] [.lst (zsD zs)]) _ _ _ _
  refine st_asg (u := .ref 1) (T' := [.lst (zsD zs), .lst []]) ?_ ?_
  · generalize (n : Int) = nI
    generalize zsD zs = zD
    simp
  show Wp (denB C [] _ [some ua, some (.d (.int (n : Nat))), none, some (.ref 0), some (.ref 1), none, none, none, none, none, none, none, none] [.lst (zsD zs), .lst (nD ((tbl n zs).take 0))]) _ _ _ _
  refine st_for ⟨rngU 0 n 1, none, [.lst (zsD zs), .lst (nD ((tbl n zs).take 0))]⟩ _ (fun f ρ T => T = [.lst (zsD zs), .lst (nD ((tbl n zs).take f))] ∧ ∃ x5 x6 x7 : Option U, ρ = [some ua, some (.d (.int (n : Nat))), none, some (.ref 0), some (.ref 1), x5, x6, x7, none, none, none, none, none]) ?_ ⟨rfl, _, _, _, rfl⟩ (fun _ _ _ _ => rfl) ?_ ?_
  · refine rng1_ok (z := (n : Int)) (by rw [den_v]; rfl) (by unfold rngOk; simp; omega) (by simp)
  · rintro f u hu ρ T ⟨rfl, x5, x6, x7, rfl⟩
    obtain ⟨hf, rfl⟩ := rngU_get hu
    have hw0 : (0 + ((f : Nat) : Int) * 1) = (f : Int) := by omega
    rw [hw0]
    refine ⟨_, rfl, ?_⟩
    exact hlO f hf x6 x7 _ _ _ _ fun y6 y7 => ⟨rfl, _, _, _, rfl⟩
  · rintro ρ T ⟨rfl, x5, x6, x7, rfl⟩
    have e : (tbl n zs).take ((rngU 0 n 1).length) = tbl n zs := List.take_of_length_le (by rw [tbl_len, rngU_len]; omega)
    simp only [e]
    exact hr2 _ _ _ _ _ _ _ _ _
end Lk12

set_option Elab.async false
set_option linter.all false
set_option maxRecDepth 100000
set_option maxHeartbeats 4000000
namespace Lk12
open PySem PySem.Spec PyProof.Rows L2 Y
def top (i : Nat) : Stmt := PySem.Challenge.pw_callmatch_k12_tables_of_pairs.main.body.getD i (.Pass ⟨0, 0, 0, 0⟩)
abbrev s5 : Stmt := (top 11)
abbrev s6 : Stmt := (top 12)
abbrev s7 : Stmt := (top 13)
abbrev s8 : Stmt := (top 15)
abbrev s10 : Stmt := (top 17)
abbrev s11 : Stmt := (top 18)
structure EnP (P : Program) (w : World) (K : PySem.W.Frag) (mg : Str → Option Value) (base : Heap) (ca : Nat → Addr) (n : Nat) : Prop where
  b_ValueError : mg "ValueError" = none
  b_enumerate : mg "enumerate" = none
  b_int : mg "int" = none
  b_isinstance : mg "isinstance" = none
  b_len : mg "len" = none
  b_list : mg "list" = none
  b_range : mg "range" = none
  b_set : mg "set" = none
  b_sorted : mg "sorted" = none
  b_tuple : mg "tuple" = none
  g_0 : ∃ u v, mg "MOST_FACTS" = some u ∧ RelV v u ∧ ∀ G, Rp G v (.int 6)
  xg_0 : mg "CallError" = some (.ref (ca 0))
  xg_4 : mg "NoChart" = some (.ref (ca 4))
  xg_3 : mg "NoName" = some (.ref (ca 3))
  xg_6 : mg "NoPaper" = some (.ref (ca 6))
  xg_1 : mg "NoTable" = some (.ref (ca 1))
  xg_7 : mg "NoText" = some (.ref (ca 7))
  xg_5 : mg "NoWay" = some (.ref (ca 5))
  xg_2 : mg "TooLong" = some (.ref (ca 2))
  xc_1 : ExcC K (ca 1)
  xi_1_4 : PySem.W.kitOne K (.ref (ca 1)) (.ref (ca 4)) = some false
  xi_1_3 : PySem.W.kitOne K (.ref (ca 1)) (.ref (ca 3)) = some false
  xi_1_6 : PySem.W.kitOne K (.ref (ca 1)) (.ref (ca 6)) = some false
  xi_1_1 : PySem.W.kitOne K (.ref (ca 1)) (.ref (ca 1)) = some true
  xi_1_7 : PySem.W.kitOne K (.ref (ca 1)) (.ref (ca 7)) = some false
  xi_1_5 : PySem.W.kitOne K (.ref (ca 1)) (.ref (ca 5)) = some false
  xi_1_2 : PySem.W.kitOne K (.ref (ca 1)) (.ref (ca 2)) = some false
  xi_1_V : PySem.W.kitOne K (.ref (ca 1)) (.type "ValueError") = some true
  xr_1 : PySem.W.excIn K (ca 1) [.type "ValueError", .type "Exception", .type "BaseException", .type "object"] "ValueError.__new__" = true ∧ PySem.W.keepIn K (.ref (ca 1)) = true ∧ RaisesK K (.ref (ca 1))
  xm_1_0 : PySem.W.exmOne K (.ref (ca 1)) (.ref (ca 0)) = some true
  cx_6 : CalX P w K mg base ca (run G n) (2 * n + 2) 6 2 "table_of"
  c_8_0 : CalY P w K mg base ca (run G n) (2 * n + 2) 8 2 "_law_cell_at" []
  c_10_0 : CalY P w K mg base ca (run G n) (2 * n + 2) 10 2 "_law_refused" []
  c_5_0 : CalY P w K mg base ca (run G n) (2 * n + 2) 5 1 "facts_in" []
  c_7_0 : CalY P w K mg base ca (run G n) (2 * n + 2) 7 1 "pairs_of" []
  c_6_0 : CalY P w K mg base ca (run G n) (2 * n + 2) 6 2 "table_of" []
theorem EnP.to {X Y : Cx} {ca : Nat → Addr} {n : Nat} (E : EnP X.prog X.w X.K X.mg X.base ca n) (e1 : Y.prog = X.prog) (e2 : Y.w = X.w) (e3 : Y.K = X.K) (e4 : Y.mg = X.mg) (e5 : Y.base = X.base) : EnP Y.prog Y.w Y.K Y.mg Y.base ca n := by
  rw [e1, e2, e3, e4, e5]; exact E
def sc5 : Scope := { kind := .function, names := [("mask", .cell), ("range", .globalImplicit), ("MOST_FACTS", .globalImplicit)], isGenerator := false, isCoroutine := false, more := [("fast", .str "mask"), ("fast", .str "fact")] }
theorem sc_5 : defScope s5 = sc5 := rfl
theorem fs_5 : FnScope ["mask", "fact"] ["mask"] sc5 := ⟨rfl, rfl, rfl, by decide +kernel, rfl, by decide +kernel, by decide +kernel⟩
theorem body5 {X : Cx} {ca : Nat → Addr} {n : Nat} (g : Cg X ["mask", "fact"] sc5 [true, false] [true, false] (2 * n + 2)) (E : EnP X.prog X.w X.K X.mg X.base ca n) : PSs X (defBody s5) (RBl ca (cn G n) b5) :=
 (b_cons (s_ret (y_lc g (own := [("fact", 1)]) { kind := .function, names := [(".0", .local), ("fact", .local), ("mask", .cell)], isGenerator := false, isCoroutine := false, more := [] } [true, true] [false, true] (by decide +kernel) (by decide +kernel) (by decide +kernel) (by decide +kernel) (by decide +kernel) (i_r1 g E.b_range (y_g g E.g_0 rfl))
 (fun Y e1 e2 e3 e4 e5 g1 => have E1 := E.to e1 e2 e3 e4 e5
  ⟨(g_nm g1 1), (c_if (t_cm g1 (o := .eq) (y_bin (o := .band) (y_bin (o := .shr) (y_v g1 0) (y_v g1 1)) y_int) y_int)), (y_v g1 1)⟩)))
 b_nil)
theorem ok5 {P : Program} {w : World} {K : PySem.W.Frag} {mg : Str → Option Value} {base : Heap} {ca : Nat → Addr} {f : Addr} {fd : FuncData} {n : Nat} (F : Fun K "facts_in" "facts_in" s5 f fd) (E : EnP P w K mg base ca n) : FnOk P w K mg base CX0 (2 * n + 3) f fd ["mask"] (spR ca (run G (n + 1)) 5 1) :=
  def_ok F sc_5 fs_5 G5 rfl rfl (by decide +kernel) (by decide +kernel) (by decide +kernel) fun X e1 e2 e3 e4 e5 g => body5 g (by rw [e1, e2, e3, e4, e5]; exact E)
def sc6 : Scope := { kind := .function, names := [("n", .local), ("pairs", .local), ("rows", .local), ("one", .local), ("other", .local), ("MOST_FACTS", .globalImplicit), ("NoTable", .globalImplicit), ("tuple", .globalImplicit)], isGenerator := false, isCoroutine := false, more := [] }
theorem sc_6 : defScope s6 = sc6 := rfl
theorem fs_6 : FnScope ["n", "pairs", "rows", "one", "other"] ["n", "pairs"] sc6 := ⟨rfl, rfl, rfl, by decide +kernel, rfl, by decide +kernel, by decide +kernel⟩
theorem body6 {X : Cx} {ca : Nat → Addr} {n : Nat} (g : Cg X ["n", "pairs", "rows", "one", "other"] sc6 [true, true, true, true, true] [true, true, true, true, true] (2 * n + 2)) (E : EnP X.prog X.w X.K X.mg X.base ca n) : PSs X (defBody s6) (RBl ca (cn G n) b6) :=
 (b_cons (s_as (y_bin (o := .mul) (y_lst (a_cons y_int a_nil)) (y_v g 0)) (g_nm g 2))
 (b_cons (s_for g (i_lst (y_v g 1)) (g_tp g (g_cons (g_nm g 3) (g_cons (g_nm g 4) g_nil))) (b_cons (s_if (t_w (w_or (t_not (t_ch g (o := .le) (o' := .lt) y_int (y_v g 3) (y_v g 0))) (w_or1 (t_not (t_ch g (o := .le) (o' := .lt) y_int (y_v g 4) (y_g g E.g_0 rfl)))))) (b_cons s_raise0
   b_nil)
   b_nil)
  (b_cons (s_seti g (y_bin (o := .bor) (y_ix g (y_v g 2) (y_v g 3)) (y_bin (o := .shl) y_int (y_v g 4))) (y_v g 2) (y_v g 3) (hpg := fun h => pg_sub (y_v g 2) (y_v g 3) h))
  b_nil)))
 (b_cons (s_ret (f_tuple g E.b_tuple (a_cons (y_v g 2) a_nil)))
 b_nil)))
theorem ok6 {P : Program} {w : World} {K : PySem.W.Frag} {mg : Str → Option Value} {base : Heap} {ca : Nat → Addr} {f : Addr} {fd : FuncData} {n : Nat} (F : Fun K "table_of" "table_of" s6 f fd) (E : EnP P w K mg base ca n) : FnOk P w K mg base CX0 (2 * n + 3) f fd ["n", "pairs"] (spR ca (run G (n + 1)) 6 2) :=
  def_ok F sc_6 fs_6 G6 rfl rfl (by decide +kernel) (by decide +kernel) (by decide +kernel) fun X e1 e2 e3 e4 e5 g => body6 g (by rw [e1, e2, e3, e4, e5]; exact E)
theorem bodyX6 {X : Cx} {W : WX} {ca : Nat → Addr} {n : Nat} (g : Cg X.nox ["n", "pairs", "rows", "one", "other"] sc6 [true, true, true, true, true] [true, true, true, true, true] (2 * n + 2)) (E : EnP X.prog X.w X.K X.mg X.base ca n) (tk : Takes X W) (hp : PassesOwn (model X.prog X.w) X.A X.env X.xe) : PSs X (defBody s6) (RBx ca (cn G n) W b6) :=
 (x_cons (x_st (s_as (y_bin (o := .mul) (y_lst (a_cons y_int a_nil)) (y_v g 0)) (g_nm g 2)) n_asg)
 (x_cons (x_for g hp (i_lst (y_v g 1)) (g_tp g (g_cons (g_nm g 3) (g_cons (g_nm g 4) g_nil))) (x_cons (x_if (t_w (w_or (t_not (t_ch g (o := .le) (o' := .lt) y_int (y_v g 3) (y_v g 0))) (w_or1 (t_not (t_ch g (o := .le) (o' := .lt) y_int (y_v g 4) (y_g g E.g_0 rfl)))))) (x_cons (x_raise0 g.calm tk PySem.F.excBase_ValueError E.xr_1.1 E.xg_1 E.xr_1.2.1 E.xr_1.2.2 (gl_of (X := X.nox) g rfl))
   x_nil)
   x_nil)
  (x_cons (x_st (s_seti g (y_bin (o := .bor) (y_ix g (y_v g 2) (y_v g 3)) (y_bin (o := .shl) y_int (y_v g 4))) (y_v g 2) (y_v g 3) (hpg := fun h => pg_sub (y_v g 2) (y_v g 3) h)) n_seti)
  x_nil)))
 (x_cons (x_st (s_ret (f_tuple g E.b_tuple (a_cons (y_v g 2) a_nil))) n_ret)
 x_nil)))
theorem okX6 {P : Program} {w : World} {K : PySem.W.Frag} {mg : Str → Option Value} {base : Heap} {ca : Nat → Addr} {f : Addr} {fd : FuncData} {n : Nat} (F : Fun K "table_of" "table_of" s6 f fd) (E : EnP P w K mg base ca n) : FnOk P w K mg base (L2.CX P w) (2 * n + 3) f fd ["n", "pairs"] (spX ca (run G (n + 1)) 6 2) :=
  def_okX F sc_6 fs_6 G6 rfl rfl (by decide +kernel) (by decide +kernel) (by decide +kernel) fun X W e1 e2 e3 e4 e5 g tk hp => bodyX6 g (by rw [e1, e2, e3, e4, e5]; exact E) tk hp
def sc7 : Scope := { kind := .function, names := [("table", .local), ("found", .local), ("one", .cell), ("row", .local), ("enumerate", .globalImplicit), ("facts_in", .globalImplicit)], isGenerator := false, isCoroutine := false, more := [("fast", .str "table"), ("fast", .str "found"), ("fast", .str "one"), ("fast", .str "row"), ("fast", .str "other")] }
theorem sc_7 : defScope s7 = sc7 := rfl
theorem fs_7 : FnScope ["table", "found", "one", "row", "other"] ["table"] sc7 := ⟨rfl, rfl, rfl, by decide +kernel, rfl, by decide +kernel, by decide +kernel⟩
theorem body7 {X : Cx} {ca : Nat → Addr} {n : Nat} (g : Cg X ["table", "found", "one", "row", "other"] sc7 [true, true, true, true, false] [true, true, true, true, false] (2 * n + 2)) (E : EnP X.prog X.w X.K X.mg X.base ca n) : PSs X (defBody s7) (RBl ca (cn G n) b7) :=
 (b_cons (s_as (y_lst a_nil) (g_nm g 1))
 (b_cons (s_for g (i_et g E.b_enumerate (y_v g 0)) (g_tp g (g_cons (g_nm g 2) (g_cons (g_nm g 3) g_nil))) (b_cons (s_ex (m_extend g (y_v g 1) (a_cons (y_lc g (own := [("other", 4)]) { kind := .function, names := [(".0", .local), ("other", .local), ("one", .cell)], isGenerator := false, isCoroutine := false, more := [] } [false, false, true, false, true] [false, false, false, false, true] (by decide +kernel) (by decide +kernel) (by decide +kernel) (by decide +kernel) (by decide +kernel) (i_lst (y_call g E.c_5_0 (a_cons (y_v g 3) a_nil)))
 (fun Y e1 e2 e3 e4 e5 g1 => have E1 := E.to e1 e2 e3 e4 e5
  ⟨(g_nm g1 4), c_no, (y_tup (a_cons (y_v g1 2) (a_cons (y_v g1 4) a_nil)))⟩)) a_nil)))
  b_nil))
 (b_cons (s_ret (y_v g 1))
 b_nil)))
theorem ok7 {P : Program} {w : World} {K : PySem.W.Frag} {mg : Str → Option Value} {base : Heap} {ca : Nat → Addr} {f : Addr} {fd : FuncData} {n : Nat} (F : Fun K "pairs_of" "pairs_of" s7 f fd) (E : EnP P w K mg base ca n) : FnOk P w K mg base CX0 (2 * n + 3) f fd ["table"] (spR ca (run G (n + 1)) 7 1) :=
  def_ok F sc_7 fs_7 G7 rfl rfl (by decide +kernel) (by decide +kernel) (by decide +kernel) fun X e1 e2 e3 e4 e5 g => body7 g (by rw [e1, e2, e3, e4, e5]; exact E)
def sc8 : Scope := { kind := .function, names := [("_law_script", .local), ("_law_k", .local), ("len", .globalImplicit)], isGenerator := false, isCoroutine := false, more := [] }
theorem sc_8 : defScope s8 = sc8 := rfl
theorem fs_8 : FnScope ["_law_script", "_law_k"] ["_law_script", "_law_k"] sc8 := ⟨rfl, rfl, rfl, by decide +kernel, rfl, by decide +kernel, by decide +kernel⟩
theorem body8 {X : Cx} {ca : Nat → Addr} {n : Nat} (g : Cg X ["_law_script", "_law_k"] sc8 [true, true] [true, true] (2 * n + 2)) (E : EnP X.prog X.w X.K X.mg X.base ca n) : PSs X (defBody s8) (RBl ca (cn G n) b8) :=
 (b_cons (s_if (t_cm g (o := .lt) (y_v g 1) (f_len g E.b_len (a_cons (y_v g 0) a_nil))) (b_cons (s_ret (y_ix g (y_v g 0) (y_v g 1)))
  b_nil)
  b_nil)
 (b_cons (s_ret (y_bin (o := .add) (y_bin (o := .mul) y_int (y_v g 1)) (f_len g E.b_len (a_cons (y_v g 0) a_nil))))
 b_nil))
theorem ok8 {P : Program} {w : World} {K : PySem.W.Frag} {mg : Str → Option Value} {base : Heap} {ca : Nat → Addr} {f : Addr} {fd : FuncData} {n : Nat} (F : Fun K "_law_cell_at" "_law_cell_at" s8 f fd) (E : EnP P w K mg base ca n) : FnOk P w K mg base CX0 (2 * n + 3) f fd ["_law_script", "_law_k"] (spR ca (run G (n + 1)) 8 2) :=
  def_ok F sc_8 fs_8 G8 rfl rfl (by decide +kernel) (by decide +kernel) (by decide +kernel) fun X e1 e2 e3 e4 e5 g => body8 g (by rw [e1, e2, e3, e4, e5]; exact E)
def sc10 : Scope := { kind := .function, names := [("_law_n", .local), ("_law_pairs", .local), ("_law_kinds", .local), ("e", .local), ("table_of", .globalImplicit), ("CallError", .globalImplicit), ("isinstance", .globalImplicit), ("NoTable", .globalImplicit), ("ValueError", .globalImplicit), ("NoChart", .globalImplicit), ("NoName", .globalImplicit), ("NoPaper", .globalImplicit), ("NoText", .globalImplicit), ("NoWay", .globalImplicit), ("TooLong", .globalImplicit)], isGenerator := false, isCoroutine := false, more := [] }
theorem sc_10 : defScope s10 = sc10 := rfl
theorem fs_10 : FnScope ["_law_n", "_law_pairs", "_law_kinds", "e"] ["_law_n", "_law_pairs"] sc10 := ⟨rfl, rfl, rfl, by decide +kernel, rfl, by decide +kernel, by decide +kernel⟩
theorem body10 {X : Cx} {ca : Nat → Addr} {n : Nat} (g : Cg X ["_law_n", "_law_pairs", "_law_kinds", "e"] sc10 [true, true, true, true] [true, true, true, true] (2 * n + 2)) (E : EnP X.prog X.w X.K X.mg X.base ca n) (hs : X.stack = X.env :: X.outer) (hf : X.env.frame = some X.env.locals) : PSs X (defBody s10) (RBl ca (cn G n) b10) :=
 (b_cons (s_as (y_lst (a_cons y_bl a_nil)) (g_nm g 2))
 (b_cons (t_try g hs hf 3 E.xg_0 (all_C E.xm_1_0 all_0) (fun W pn xe tk hp => have t1 := g.tr pn xe; (x_cons (x_callE t1 tk E.cx_6 (a_cons (y_v t1 0) (a_cons (y_v t1 1) a_nil))) x_nil)) (fun a pn => have h1 := g.hot a pn; (b_cons (s_as (y_lst (a_cons (y_isx (glh_of h1 rfl) E.b_isinstance (h_v h1 3) (k_cls (glh_of h1 rfl) E.xg_1) rel_ref (all_C ⟨E.xc_1, E.xi_1_1⟩ all_0) all_0) (a_cons (y_isx (glh_of h1 rfl) E.b_isinstance (h_v h1 3) (k_VE (glh_of h1 rfl) E.b_ValueError) rel_ty (all_C ⟨E.xc_1, E.xi_1_V⟩ all_0) all_0) (a_cons (y_not (y_isxT (glh_of h1 rfl) E.b_isinstance (h_v h1 3) (pa_valsC (k_cls (glh_of h1 rfl) E.xg_4) (pa_valsC (k_cls (glh_of h1 rfl) E.xg_3) (pa_valsC (k_cls (glh_of h1 rfl) E.xg_6) pa_vals0))) (vals_C rel_ref (vals_C rel_ref (vals_C rel_ref vals_0))) (by simp) all_0 (all_C ⟨E.xc_1, (kita_f E.xi_1_4 (kita_f E.xi_1_3 (kita_f E.xi_1_6 kita_0)))⟩ all_0))) a_nil)))) (h_nm h1 2))
   (b_cons (s_as (y_bin (o := .add) (h_v h1 2) (y_lst (a_cons (y_not (y_isxT (glh_of h1 rfl) E.b_isinstance (h_v h1 3) (pa_valsC (k_cls (glh_of h1 rfl) E.xg_7) (pa_valsC (k_cls (glh_of h1 rfl) E.xg_5) (pa_valsC (k_cls (glh_of h1 rfl) E.xg_2) pa_vals0))) (vals_C rel_ref (vals_C rel_ref (vals_C rel_ref vals_0))) (by simp) all_0 (all_C ⟨E.xc_1, (kita_f E.xi_1_7 (kita_f E.xi_1_5 (kita_f E.xi_1_2 kita_0)))⟩ all_0))) a_nil))) (h_nm h1 2))
   b_nil))))
 (b_cons (s_ret (y_cm g (o := .notin) y_bl (y_v g 2)))
 b_nil)))
theorem ok10 {P : Program} {w : World} {K : PySem.W.Frag} {mg : Str → Option Value} {base : Heap} {ca : Nat → Addr} {f : Addr} {fd : FuncData} {n : Nat} (F : Fun K "_law_refused" "_law_refused" s10 f fd) (E : EnP P w K mg base ca n) : FnOk P w K mg base CX0 (2 * n + 3) f fd ["_law_n", "_law_pairs"] (spR ca (run G (n + 1)) 10 2) :=
  def_okT F sc_10 fs_10 G10 rfl rfl (by decide +kernel) (by decide +kernel) (by decide +kernel) fun X e1 e2 e3 e4 e5 hs hf g => body10 g (by rw [e1, e2, e3, e4, e5]; exact E) hs hf
def sc11 : Scope := { kind := .function, names := [("_law_script", .local), ("_law_n", .cell), ("_law_cell", .local), ("_law_pairs", .local), ("_law_due", .local), ("_law_fact", .local), ("_law_mask", .local), ("_law_other", .local), ("_law_handed", .local), ("_law_table", .local), ("_law_told", .local), ("_law_far", .local), ("_law_wrong", .local), ("_law_cell_at", .globalImplicit), ("range", .globalImplicit), ("int", .globalImplicit), ("list", .globalImplicit), ("table_of", .globalImplicit), ("isinstance", .globalImplicit), ("tuple", .globalImplicit), ("pairs_of", .globalImplicit), ("sorted", .globalImplicit), ("set", .globalImplicit), ("len", .globalImplicit), ("_law_refused", .globalImplicit)], isGenerator := false, isCoroutine := false, more := [("fast", .str "_law_script"), ("fast", .str "_law_n"), ("fast", .str "_law_cell"), ("fast", .str "_law_pairs"), ("fast", .str "_law_due"), ("fast", .str "_law_fact"), ("fast", .str "_law_mask"), ("fast", .str "_law_other"), ("fast", .str "_law_handed"), ("fast", .str "_law_table"), ("fast", .str "_law_told"), ("fast", .str "_law_far"), ("fast", .str "_law_wrong")] }
theorem sc_11 : defScope s11 = sc11 := rfl
theorem fs_11 : FnScope ["_law_script", "_law_n", "_law_cell", "_law_pairs", "_law_due", "_law_fact", "_law_mask", "_law_other", "_law_handed", "_law_table", "_law_told", "_law_far", "_law_wrong"] ["_law_script"] sc11 := ⟨rfl, rfl, rfl, by decide +kernel, rfl, by decide +kernel, by decide +kernel⟩
theorem body11 {X : Cx} {ca : Nat → Addr} {n : Nat} (g : Cg X ["_law_script", "_law_n", "_law_cell", "_law_pairs", "_law_due", "_law_fact", "_law_mask", "_law_other", "_law_handed", "_law_table", "_law_told", "_law_far", "_law_wrong"] sc11 [true, true, true, true, true, true, true, true, true, true, true, true, true] [true, true, true, true, true, true, true, true, true, true, true, true, true] (2 * n + 2)) (E : EnP X.prog X.w X.K X.mg X.base ca n) : PSs X (defBody s11) (RBl ca (cn G n) b11) :=
 (b_cons (s_as (y_bin (o := .add) y_int (y_bin (o := .mod) (y_call g E.c_8_0 (a_cons (y_v g 0) (a_cons y_int a_nil))) y_int)) (g_nm g 1))
 (b_cons (s_lcA g 3 (own := [("_law_cell", 2)]) { kind := .function, names := [(".0", .local), ("_law_cell", .local), ("_law_n", .cell)], isGenerator := false, isCoroutine := false, more := [] } [false, true, true, false, false, false, false, false, false, false, false, false, false] [false, false, true, false, false, false, false, false, false, false, false, false, false] (by decide +kernel) (by decide +kernel) (by decide +kernel) (by decide +kernel) (by decide +kernel) (i_lst (y_v g 0))
 (fun Y e1 e2 e3 e4 e5 g1 => have E1 := E.to e1 e2 e3 e4 e5
  ⟨(g_nm g1 2), c_no, (y_tup (a_cons (y_bin (o := .mod) (y_bin (o := .fdiv) (y_v g1 2) y_int) (y_v g1 1)) (a_cons (y_bin (o := .mod) (y_v g1 2) y_int) a_nil)))⟩))
 (b_cons (s_as (y_lst a_nil) (g_nm g 4))
 (b_cons (s_for g (i_r1 g E.b_range (y_v g 1)) (g_nm g 5) (b_cons (s_as y_int (g_nm g 6))
  (b_cons (s_for g (i_r1 g E.b_range y_int) (g_nm g 7) (b_cons (s_as (y_bin (o := .add) (y_v g 6) (y_bin (o := .mul) (y_ix g (y_tup (a_cons y_int (a_cons y_int (a_cons y_int (a_cons y_int (a_cons y_int (a_cons y_int a_nil))))))) (y_v g 7)) (f_int g E.b_int (a_cons (y_cm g (o := .isin) (y_tup (a_cons (y_v g 5) (a_cons (y_v g 7) a_nil))) (y_v g 3)) a_nil)))) (g_nm g 6))
   b_nil))
  (b_cons (s_ex (m_append g (y_v g 4) (a_cons (y_v g 6) a_nil)))
  b_nil))))
 (b_cons (s_as (f_list g E.b_list (a_cons (y_v g 3) a_nil)) (g_nm g 8))
 (b_cons (s_as (y_call g E.c_6_0 (a_cons (y_v g 1) (a_cons (y_v g 8) a_nil))) (g_nm g 9))
 (b_cons (s_if (t_w (w_or (t_not (t_e (f_istuple g E.b_isinstance E.b_tuple (y_v g 9)))) (w_or (t_cm g (o := .ne) (y_v g 9) (f_tuple g E.b_tuple (a_cons (y_v g 4) a_nil))) (w_or1 (t_cm g (o := .ne) (y_v g 8) (y_v g 3)))))) (b_cons (s_ret y_bl)
  b_nil)
  b_nil)
 (b_cons (s_ex (m_append g (y_v g 8) (a_cons (y_tup (a_cons y_int (a_cons y_int a_nil))) a_nil)))
 (b_cons (s_as (y_call g E.c_7_0 (a_cons (y_v g 9) a_nil)) (g_nm g 10))
 (b_cons (s_if (t_w (w_or (t_not (t_e (f_islist g E.b_isinstance E.b_list (y_v g 10)))) (w_or (t_cm g (o := .ne) (y_v g 10) (y_sortset g E.b_sorted E.b_set (y_v g 3))) (w_or1 (t_cm g (o := .ne) (y_call g E.c_6_0 (a_cons (y_v g 1) (a_cons (y_v g 10) a_nil))) (y_v g 9)))))) (b_cons (s_ret y_bl)
  b_nil)
  b_nil)
 (b_cons (s_ex (m_append g (y_v g 10) (a_cons (y_tup (a_cons y_int (a_cons y_int a_nil))) a_nil)))
 (b_cons (s_if (t_cm g (o := .ne) (y_call g E.c_7_0 (a_cons (y_v g 9) a_nil)) (y_sortset g E.b_sorted E.b_set (y_v g 3))) (b_cons (s_ret y_bl)
  b_nil)
  b_nil)
 (b_cons (s_as (y_call g E.c_8_0 (a_cons (y_v g 0) (a_cons y_int a_nil))) (g_nm g 2))
 (b_cons (s_if (t_cm g (o := .gt) (y_bin (o := .mod) (y_v g 2) y_int) y_int) (b_cons (s_ret y_bl)
  b_nil)
  b_nil)
 (b_cons (s_as (y_bin (o := .add) y_int (y_bin (o := .mod) (y_bin (o := .fdiv) (y_v g 2) y_int) (y_bin (o := .pow) y_int y_int))) (g_nm g 11))
 (b_cons (s_as (y_ix g (y_lst (a_cons (y_tup (a_cons (y_bin (o := .add) (y_bin (o := .sub) (y_v g 1) y_int) (y_v g 11)) (a_cons y_int a_nil))) (a_cons (y_tup (a_cons y_int (a_cons (y_bin (o := .add) y_int (y_v g 11)) a_nil))) (a_cons (y_tup (a_cons (y_bin (o := .sub) y_int (y_v g 11)) (a_cons y_int a_nil))) (a_cons (y_tup (a_cons y_int (a_cons (y_bin (o := .sub) y_int (y_v g 11)) a_nil))) a_nil))))) (y_bin (o := .mod) (y_bin (o := .fdiv) (y_v g 2) y_int) y_int)) (g_nm g 12))
 (b_cons (s_ex (m_insert g (y_v g 3) (a_cons (y_bin (o := .mod) (y_bin (o := .fdiv) (y_v g 2) y_int) (y_bin (o := .add) (f_len g E.b_len (a_cons (y_v g 3) a_nil)) y_int)) (a_cons (y_v g 12) a_nil))))
 (b_cons (s_ret (y_and (y_call g E.c_10_0 (a_cons (y_v g 1) (a_cons (y_v g 3) a_nil))) (y_and (y_call g E.c_10_0 (a_cons (y_v g 1) (a_cons (f_list g E.b_list (a_cons (y_v g 3) a_nil)) a_nil))) (y_one (y_cm g (o := .eq) (y_call g E.c_6_0 (a_cons (y_v g 1) (a_cons (y_slc (y_v g 10) o_sk (o_e (y_neg y_int))) a_nil))) (y_v g 9))))))
 b_nil))))))))))))))))))
theorem ok11 {P : Program} {w : World} {K : PySem.W.Frag} {mg : Str → Option Value} {base : Heap} {ca : Nat → Addr} {f : Addr} {fd : FuncData} {n : Nat} (F : Fun K "law" "law" s11 f fd) (E : EnP P w K mg base ca n) : FnOk P w K mg base CX0 (2 * n + 3) f fd ["_law_script"] (spR ca (run G (n + 1)) 11 1) :=
  def_ok F sc_11 fs_11 G11 rfl rfl (by decide +kernel) (by decide +kernel) (by decide +kernel) fun X e1 e2 e3 e4 e5 g => body11 g (by rw [e1, e2, e3, e4, e5]; exact E)
end Lk12

set_option Elab.async false
set_option linter.all false
set_option maxRecDepth 100000
set_option maxHeartbeats 4000000
namespace Lk12
open PySem PySem.Spec PyProof.Rows L2 Y
theorem all_mk {l : PySem.W.OpenLaw} {w : World} {K : PySem.W.Frag} {h : Heap} {mg : Str → Option Value} {fa f11 f5 f6 f7 f8 f10 C0 C1 C2 C3 C4 C5 C6 C7 : Addr} (X : K.In h) (G' : h.Ns mainGlobals mg) (hfa : mg "law" = some (.ref fa))
    {od5 an5 : Option Addr} {sl5 : Array (Option Value)} {oc5 kV5 dc5 pm5 cd5 ct5 : Value} {od6 an6 : Option Addr} {sl6 : Array (Option Value)} {oc6 kV6 dc6 pm6 cd6 ct6 : Value} {od7 an7 : Option Addr} {sl7 : Array (Option Value)} {oc7 kV7 dc7 pm7 cd7 ct7 : Value} {od8 an8 : Option Addr} {sl8 : Array (Option Value)} {oc8 kV8 dc8 pm8 cd8 ct8 : Value} {od10 an10 : Option Addr} {sl10 : Array (Option Value)} {oc10 kV10 dc10 pm10 cd10 ct10 : Value} {od11 an11 : Option Addr} {sl11 : Array (Option Value)} {oc11 kV11 dc11 pm11 cd11 ct11 : Value} {tk0 : Tok}
    (a5 : PySem.W.nsIn K mainGlobals "facts_in" = some (some (.ref f5)))
    (l5 : K.lookup f5 = some ⟨oc5, od5, .func (PySem.W.fnOf "facts_in" "facts_in" (defArgs s5) (defBody s5) (defScope s5) .none kV5 dc5 pm5 an5 cd5 ct5), sl5⟩)
    (c5 : PySem.W.codeIn K cd5 "facts_in" = true)
    (k5 : PySem.W.keepIn K (.ref f5) = true)
    (a6 : PySem.W.nsIn K mainGlobals "table_of" = some (some (.ref f6)))
    (l6 : K.lookup f6 = some ⟨oc6, od6, .func (PySem.W.fnOf "table_of" "table_of" (defArgs s6) (defBody s6) (defScope s6) .none kV6 dc6 pm6 an6 cd6 ct6), sl6⟩)
    (c6 : PySem.W.codeIn K cd6 "table_of" = true)
    (k6 : PySem.W.keepIn K (.ref f6) = true)
    (a7 : PySem.W.nsIn K mainGlobals "pairs_of" = some (some (.ref f7)))
    (l7 : K.lookup f7 = some ⟨oc7, od7, .func (PySem.W.fnOf "pairs_of" "pairs_of" (defArgs s7) (defBody s7) (defScope s7) .none kV7 dc7 pm7 an7 cd7 ct7), sl7⟩)
    (c7 : PySem.W.codeIn K cd7 "pairs_of" = true)
    (k7 : PySem.W.keepIn K (.ref f7) = true)
    (a8 : PySem.W.nsIn K mainGlobals "_law_cell_at" = some (some (.ref f8)))
    (l8 : K.lookup f8 = some ⟨oc8, od8, .func (PySem.W.fnOf "_law_cell_at" "_law_cell_at" (defArgs s8) (defBody s8) (defScope s8) .none kV8 dc8 pm8 an8 cd8 ct8), sl8⟩)
    (c8 : PySem.W.codeIn K cd8 "_law_cell_at" = true)
    (k8 : PySem.W.keepIn K (.ref f8) = true)
    (a10 : PySem.W.nsIn K mainGlobals "_law_refused" = some (some (.ref f10)))
    (l10 : K.lookup f10 = some ⟨oc10, od10, .func (PySem.W.fnOf "_law_refused" "_law_refused" (defArgs s10) (defBody s10) (defScope s10) .none kV10 dc10 pm10 an10 cd10 ct10), sl10⟩)
    (c10 : PySem.W.codeIn K cd10 "_law_refused" = true)
    (k10 : PySem.W.keepIn K (.ref f10) = true)
    (a11 : PySem.W.nsIn K mainGlobals "law" = some (some (.ref f11)))
    (l11 : K.lookup f11 = some ⟨oc11, od11, .func (PySem.W.fnOf "law" "law" (defArgs s11) (defBody s11) (defScope s11) .none kV11 dc11 pm11 an11 cd11 ct11), sl11⟩)
    (c11 : PySem.W.codeIn K cd11 "law" = true)
    (k11 : PySem.W.keepIn K (.ref f11) = true)
    (aC0 : PySem.W.nsIn K mainGlobals "CallError" = some (some (.ref C0)))
    (aC4 : PySem.W.nsIn K mainGlobals "NoChart" = some (some (.ref C4)))
    (aC3 : PySem.W.nsIn K mainGlobals "NoName" = some (some (.ref C3)))
    (aC6 : PySem.W.nsIn K mainGlobals "NoPaper" = some (some (.ref C6)))
    (aC1 : PySem.W.nsIn K mainGlobals "NoTable" = some (some (.ref C1)))
    (aC7 : PySem.W.nsIn K mainGlobals "NoText" = some (some (.ref C7)))
    (aC5 : PySem.W.nsIn K mainGlobals "NoWay" = some (some (.ref C5)))
    (aC2 : PySem.W.nsIn K mainGlobals "TooLong" = some (some (.ref C2)))
    (xx_n : PySem.W.specialIn K (.builtin "object.__class__") "__get__" = some (some (.builtin "getset_descriptor.__get__")))
    (xx_t : PySem.W.takesIn K (.builtin "object.__class__") = some true)
    (xg1_a : PySem.W.findIn K (.ref C1) "__getattribute__" = some (some (.builtin "BaseException.__getattribute__")))
    (xg1_b : PySem.W.findIn K (.ref C1) "__getattr__" = some none)
    (xg1_d : PySem.W.hasDictIn K C1 = true)
    (xg1_e : PySem.W.findIn K (.ref C1) "__class__" = some (some (.builtin "object.__class__")))
    (xg1_f : PySem.W.mroIn K C1 (.type "object") = some true)
    (xs1 : PySem.W.subIn K (.ref C1) (.type "BaseException") = some true)
    (xt1 : PySem.W.typeIn K (.ref C1) = some (.type "type"))
    (xk1 : PySem.W.keepIn K (.ref C1) = true)
    (xq1 : PySem.W.excIn K C1 [.type "ValueError", .type "Exception", .type "BaseException", .type "object"] "ValueError.__new__" = true)
    (su_1_0 : PySem.W.subIn K (.ref C1) (.ref C0) = some true)
    (xg0_d : PySem.W.hasDictIn K C0 = true)
    (xt0 : PySem.W.typeIn K (.ref C0) = some (.type "type"))
    (xs0 : PySem.W.subIn K (.ref C0) (.type "BaseException") = some true)
    (su_1_4 : PySem.W.subIn K (.ref C1) (.ref C4) = some false)
    (xg4_d : PySem.W.hasDictIn K C4 = true)
    (xt4 : PySem.W.typeIn K (.ref C4) = some (.type "type"))
    (su_1_1 : PySem.W.subIn K (.ref C1) (.ref C1) = some true)
    (su_1_3 : PySem.W.subIn K (.ref C1) (.ref C3) = some false)
    (xg3_d : PySem.W.hasDictIn K C3 = true)
    (xt3 : PySem.W.typeIn K (.ref C3) = some (.type "type"))
    (su_1_6 : PySem.W.subIn K (.ref C1) (.ref C6) = some false)
    (xg6_d : PySem.W.hasDictIn K C6 = true)
    (xt6 : PySem.W.typeIn K (.ref C6) = some (.type "type"))
    (su_1_7 : PySem.W.subIn K (.ref C1) (.ref C7) = some false)
    (xg7_d : PySem.W.hasDictIn K C7 = true)
    (xt7 : PySem.W.typeIn K (.ref C7) = some (.type "type"))
    (su_1_5 : PySem.W.subIn K (.ref C1) (.ref C5) = some false)
    (xg5_d : PySem.W.hasDictIn K C5 = true)
    (xt5 : PySem.W.typeIn K (.ref C5) = some (.type "type"))
    (su_1_2 : PySem.W.subIn K (.ref C1) (.ref C2) = some false)
    (xg2_d : PySem.W.hasDictIn K C2 = true)
    (xt2 : PySem.W.typeIn K (.ref C2) = some (.type "type"))
    (su_1_V : PySem.W.subIn K (.ref C1) (.type "ValueError") = some true)
    (z_ValueError : PySem.W.nsIn K mainGlobals "ValueError" = some none)
    (z_enumerate : PySem.W.nsIn K mainGlobals "enumerate" = some none)
    (z_int : PySem.W.nsIn K mainGlobals "int" = some none)
    (z_isinstance : PySem.W.nsIn K mainGlobals "isinstance" = some none)
    (z_len : PySem.W.nsIn K mainGlobals "len" = some none)
    (z_list : PySem.W.nsIn K mainGlobals "list" = some none)
    (z_range : PySem.W.nsIn K mainGlobals "range" = some none)
    (z_set : PySem.W.nsIn K mainGlobals "set" = some none)
    (z_sorted : PySem.W.nsIn K mainGlobals "sorted" = some none)
    (z_tuple : PySem.W.nsIn K mainGlobals "tuple" = some none)
    (gk0 : PySem.W.nsIn K mainGlobals "MOST_FACTS" = some (some (.int 6 tk0)))
    (nl : NoL K) (hq : ∀ ns : List Int, ns.length ≤ 63 → ∃ T, run G 40 [] 11 [.d (.list (ns.map .int))] [] = .ok (.d (.bool true)) T) :
    ∃ fd : FuncData, (∀ (s : Shared) (v : Value), BindsTo s fd ⟨[v], []⟩ [("_law_script", v)]) ∧ ∀ base : Heap, K.In base → base.Ns mainGlobals mg → FnOk l.prog w K mg base CX0 81 fa fd ["_law_script"] (fun vs H Q _ => ∃ (a : Addr) (ns : List Int), vs = [.ref a] ∧ SqL K H a (ns.map V.int) ∧ ns.length ≤ 63 ∧ ∀ H', Q (.bl true) H') := by
  have e := hfa.symm.trans (PySem.W.mg_of X G' a11)
  cases e
  have F5 := fun_mk (st := s5) l5 c5 k5
  have bd5 := F5.binds (ps := ["mask"]) fun _ _ _ _ _ _ us hl => match us, hl with | [_], _ => rfl
  have F6 := fun_mk (st := s6) l6 c6 k6
  have bd6 := F6.binds (ps := ["n", "pairs"]) fun _ _ _ _ _ _ us hl => match us, hl with | [_, _], _ => rfl
  have F7 := fun_mk (st := s7) l7 c7 k7
  have bd7 := F7.binds (ps := ["table"]) fun _ _ _ _ _ _ us hl => match us, hl with | [_], _ => rfl
  have F8 := fun_mk (st := s8) l8 c8 k8
  have bd8 := F8.binds (ps := ["_law_script", "_law_k"]) fun _ _ _ _ _ _ us hl => match us, hl with | [_, _], _ => rfl
  have F10 := fun_mk (st := s10) l10 c10 k10
  have bd10 := F10.binds (ps := ["_law_n", "_law_pairs"]) fun _ _ _ _ _ _ us hl => match us, hl with | [_, _], _ => rfl
  have F11 := fun_mk (st := s11) l11 c11 k11
  have bd11 := F11.binds (ps := ["_law_script"]) fun _ _ _ _ _ _ us hl => match us, hl with | [_], _ => rfl
  let ca : Nat → Addr := fun i => match i with
    | 0 => C0
    | 1 => C1
    | 2 => C2
    | 3 => C3
    | 4 => C4
    | 5 => C5
    | 6 => C6
    | 7 => C7
    | _ => 0
  have lev : ∀ (base : Heap) (n : Nat), FnOk l.prog w K mg base CX0 (2 * n + 1) f5 (PySem.W.fnOf "facts_in" "facts_in" (defArgs s5) (defBody s5) (defScope s5) .none kV5 dc5 pm5 an5 cd5 ct5) ["mask"] (spR ca (run G n) 5 1) ∧ FnOk l.prog w K mg base CX0 (2 * n + 1) f6 (PySem.W.fnOf "table_of" "table_of" (defArgs s6) (defBody s6) (defScope s6) .none kV6 dc6 pm6 an6 cd6 ct6) ["n", "pairs"] (spR ca (run G n) 6 2) ∧ FnOk l.prog w K mg base CX0 (2 * n + 1) f7 (PySem.W.fnOf "pairs_of" "pairs_of" (defArgs s7) (defBody s7) (defScope s7) .none kV7 dc7 pm7 an7 cd7 ct7) ["table"] (spR ca (run G n) 7 1) ∧ FnOk l.prog w K mg base CX0 (2 * n + 1) f8 (PySem.W.fnOf "_law_cell_at" "_law_cell_at" (defArgs s8) (defBody s8) (defScope s8) .none kV8 dc8 pm8 an8 cd8 ct8) ["_law_script", "_law_k"] (spR ca (run G n) 8 2) ∧ FnOk l.prog w K mg base CX0 (2 * n + 1) f10 (PySem.W.fnOf "_law_refused" "_law_refused" (defArgs s10) (defBody s10) (defScope s10) .none kV10 dc10 pm10 an10 cd10 ct10) ["_law_n", "_law_pairs"] (spR ca (run G n) 10 2) ∧ FnOk l.prog w K mg base CX0 (2 * n + 1) fa (PySem.W.fnOf "law" "law" (defArgs s11) (defBody s11) (defScope s11) .none kV11 dc11 pm11 an11 cd11 ct11) ["_law_script"] (spR ca (run G n) 11 1) ∧ FnOk l.prog w K mg base (L2.CX l.prog w) (2 * n + 1) f6 (PySem.W.fnOf "table_of" "table_of" (defArgs s6) (defBody s6) (defScope s6) .none kV6 dc6 pm6 an6 cd6 ct6) ["n", "pairs"] (spX ca (run G n) 6 2) := by
      intro base n; induction n with
      | zero => exact ⟨def_0, def_0, def_0, def_0, def_0, def_0, def_0X⟩
      | succ n ih =>
        obtain ⟨I5, I6, I7, I8, I10, I11, J6⟩ := ih
        have E : EnP l.prog w K mg base ca n := ⟨PySem.W.mg_none_of X G' z_ValueError,
          PySem.W.mg_none_of X G' z_enumerate,
          PySem.W.mg_none_of X G' z_int,
          PySem.W.mg_none_of X G' z_isinstance,
          PySem.W.mg_none_of X G' z_len,
          PySem.W.mg_none_of X G' z_list,
          PySem.W.mg_none_of X G' z_range,
          PySem.W.mg_none_of X G' z_set,
          PySem.W.mg_none_of X G' z_sorted,
          PySem.W.mg_none_of X G' z_tuple,
          ⟨_, .int 6, PySem.W.mg_of X G' gk0, ⟨_, rfl⟩, fun _ => .int _⟩,
          PySem.W.mg_of X G' aC0,
          PySem.W.mg_of X G' aC4,
          PySem.W.mg_of X G' aC3,
          PySem.W.mg_of X G' aC6,
          PySem.W.mg_of X G' aC1,
          PySem.W.mg_of X G' aC7,
          PySem.W.mg_of X G' aC5,
          PySem.W.mg_of X G' aC2,
          ⟨xg1_a, xg1_b, xs1, xg1_d, xg1_e, xx_n, xx_t, xg1_f⟩,
          (kit_rf su_1_4 su_1_1 xg4_d xt4),
          (kit_rf su_1_3 su_1_1 xg3_d xt3),
          (kit_rf su_1_6 su_1_1 xg6_d xt6),
          kit_same,
          (kit_rf su_1_7 su_1_1 xg7_d xt7),
          (kit_rf su_1_5 su_1_1 xg5_d xt5),
          (kit_rf su_1_2 su_1_1 xg2_d xt2),
          (kit_vt su_1_V),
          ⟨xq1, xk1, xs1, xt1⟩,
          (PySem.W.exm_ref xs0 xg0_d xt0 su_1_0),
          ⟨⟨_, _, _, J6.mono (by omega), PySem.W.mg_of X G' a6, k6, bd6⟩, fun _ _ _ h => run_len G6 n _ _ _ h⟩,
          ⟨⟨_, _, _, [], [], I8.mono (by omega), PySem.W.mg_of X G' a8, k8, bd8, .nil, fun _ => .nil⟩, fun _ _ _ h => run_len G8 n _ _ _ h⟩,
          ⟨⟨_, _, _, [], [], I10.mono (by omega), PySem.W.mg_of X G' a10, k10, bd10, .nil, fun _ => .nil⟩, fun _ _ _ h => run_len G10 n _ _ _ h⟩,
          ⟨⟨_, _, _, [], [], I5.mono (by omega), PySem.W.mg_of X G' a5, k5, bd5, .nil, fun _ => .nil⟩, fun _ _ _ h => run_len G5 n _ _ _ h⟩,
          ⟨⟨_, _, _, [], [], I7.mono (by omega), PySem.W.mg_of X G' a7, k7, bd7, .nil, fun _ => .nil⟩, fun _ _ _ h => run_len G7 n _ _ _ h⟩,
          ⟨⟨_, _, _, [], [], I6.mono (by omega), PySem.W.mg_of X G' a6, k6, bd6, .nil, fun _ => .nil⟩, fun _ _ _ h => run_len G6 n _ _ _ h⟩⟩
        exact ⟨ok5 F5 E, ok6 F6 E, ok7 F7 E, ok8 F8 E, ok10 F10 E, ok11 F11 E, okX6 F6 E⟩
  exact ⟨(PySem.W.fnOf "law" "law" (defArgs s11) (defBody s11) (defScope s11) .none kV11 dc11 pm11 an11 cd11 ct11), fun s v => .of_eq rfl, fun base _ _ => law_imp (lev base 40).2.2.2.2.2.1 nl hq⟩
theorem walk {l : PySem.W.OpenLaw} {q : Program} {loose : List Str} {XP : (Str → Option Value) → Heap → Prop} {YP : World → Heap → Prop} {d : DefRec} {K : Params → PySem.W.Frag} (hn : l.most = some 63) (hdf : d.params.defaults = [])
    (hY : ∀ (w : World) (h : Heap), YP w h → (K w.params).In h)
    (F : ∀ (w : World) (mg : Str → Option Value) (fa : Addr) (h : Heap), (K w.params).In h → h.Ns mainGlobals mg → mg d.name = some (.ref fa) →
      ∃ fd : FuncData, (∀ (s : Shared) (u : Value), BindsTo s fd ⟨[u], []⟩ [("_law_script", u)]) ∧ ∀ base : Heap, (K w.params).In base → base.Ns mainGlobals mg → FnOk l.prog w (K w.params) mg base CX0 81 fa fd ["_law_script"] (fun vs H Q _ => ∃ (a : Addr) (ns : List Int), vs = [.ref a] ∧ SqL (K w.params) H a (ns.map V.int) ∧ ns.length ≤ 63 ∧ ∀ H', Q (.bl true) H')) :
    PySem.W.WalkO q loose XP YP l.row.toRowW d [] (fun f vs => PySem.call f vs) :=
  L2.walk_of (n := 63) (k := 81) (x := "_law_script") (CX := fun _ => CX0) (sp := fun w => fun vs H Q _ => ∃ (a : Addr) (ns : List Int), vs = [.ref a] ∧ SqL (K w.params) H a (ns.map V.int) ∧ ns.length ≤ 63 ∧ ∀ H', Q (.bl true) H') hn (by decide) hdf ⟨rfl, by decide, by decide⟩ hY F (fun _ _ a ns hl _ hS => ⟨a, ns, rfl, hS, hl, fun _ => rfl⟩) fun _ _ _ _ _ z => z
end Lk12
open PySem PySem.W PyProof.Rows in
set_option maxRecDepth 100000 in
set_option maxHeartbeats 0 in
theorem PySem.Challenge.cw_callmatch_k12_tables_of_pairs_holds : PySem.Challenge.rw_callmatch_k12_tables_of_pairs.Holds := by
  w_on; o_law; k_head; (case hw => w_witness2)
  k_fill
  refine Lk12.walk (l := PySem.Challenge.rw_callmatch_k12_tables_of_pairs) rfl rfl (fun w h Y => PySem.W.kIn_of Y) ?F
  case F =>
    intro w mg fa h KX G hmg
    refine' Lk12.all_mk KX G hmg ?a5 ?l5 ?c5 ?k5 ?a6 ?l6 ?c6 ?k6 ?a7 ?l7 ?c7 ?k7 ?a8 ?l8 ?c8 ?k8 ?a10 ?l10 ?c10 ?k10 ?a11 ?l11 ?c11 ?k11 ?aC0 ?aC4 ?aC3 ?aC6 ?aC1 ?aC7 ?aC5 ?aC2 ?xx_n ?xx_t ?xg1_a ?xg1_b ?xg1_d ?xg1_e ?xg1_f ?xs1 ?xt1 ?xk1 ?xq1 ?su_1_0 ?xg0_d ?xt0 ?xs0 ?su_1_4 ?xg4_d ?xt4 ?su_1_1 ?su_1_3 ?xg3_d ?xt3 ?su_1_6 ?xg6_d ?xt6 ?su_1_7 ?xg7_d ?xt7 ?su_1_5 ?xg5_d ?xt5 ?su_1_2 ?xg2_d ?xt2 ?su_1_V ?z_ValueError ?z_enumerate ?z_int ?z_isinstance ?z_len ?z_list ?z_range ?z_set ?z_sorted ?z_tuple ?gk0 ?nl ?hq
    (case aC0 => k_is)
    (case aC4 => k_is)
    (case aC3 => k_is)
    (case aC6 => k_is)
    (case aC1 => k_is)
    (case aC7 => k_is)
    (case aC5 => k_is)
    (case aC2 => k_is)
    (case a5 => k_is)
    (case l5 => k_is)
    (case c5 => k_is)
    (case k5 => k_is)
    (case a6 => k_is)
    (case l6 => k_is)
    (case c6 => k_is)
    (case k6 => k_is)
    (case a7 => k_is)
    (case l7 => k_is)
    (case c7 => k_is)
    (case k7 => k_is)
    (case a8 => k_is)
    (case l8 => k_is)
    (case c8 => k_is)
    (case k8 => k_is)
    (case a10 => k_is)
    (case l10 => k_is)
    (case c10 => k_is)
    (case k10 => k_is)
    (case a11 => k_is)
    (case l11 => k_is)
    (case c11 => k_is)
    (case k11 => k_is)
    (case xx_n => k_is)
    (case xx_t => k_is)
    (case xg1_a => k_is)
    (case xg1_b => k_is)
    (case xg1_d => k_is)
    (case xg1_e => k_is)
    (case xg1_f => k_is)
    (case xs1 => k_is)
    (case xt1 => k_is)
    (case xk1 => k_is)
    (case xq1 => k_exc)
    (case su_1_0 => k_is)
    (case xg0_d => k_is)
    (case xt0 => k_is)
    (case xs0 => k_is)
    (case su_1_4 => k_is)
    (case xg4_d => k_is)
    (case xt4 => k_is)
    (case su_1_1 => k_is)
    (case su_1_3 => k_is)
    (case xg3_d => k_is)
    (case xt3 => k_is)
    (case su_1_6 => k_is)
    (case xg6_d => k_is)
    (case xt6 => k_is)
    (case su_1_7 => k_is)
    (case xg7_d => k_is)
    (case xt7 => k_is)
    (case su_1_5 => k_is)
    (case xg5_d => k_is)
    (case xt5 => k_is)
    (case su_1_2 => k_is)
    (case xg2_d => k_is)
    (case xt2 => k_is)
    (case su_1_V => k_is)
    (case z_ValueError => k_is)
    (case z_enumerate => k_is)
    (case z_int => k_is)
    (case z_isinstance => k_is)
    (case z_len => k_is)
    (case z_list => k_is)
    (case z_range => k_is)
    (case z_set => k_is)
    (case z_sorted => k_is)
    (case z_tuple => k_is)
    (case gk0 => k_is)
    (case nl => exact Y.nol_of (by kernel_rfl))
    (case hq => exact Lk12.main)
#print axioms PySem.Challenge.cw_callmatch_k12_tables_of_pairs_holds

