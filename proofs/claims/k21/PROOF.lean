import PyProof.Rows.All
import Wide.All
import OpenK.AllK
import Wide.FinOn
import HandS.ForMost
import HandS.Deep
import HandS.TupAny
import HandS.TupMul
import HandS.TupLe
import HandS.Wide
import HandS.IsInst
import HandS.WideBits
import HandS.DictEq
import HandS.Dict
import PyProof.DictMoreH
import HandS.TupLen
import KE.KEqNest
import HandS.Strs
import HandS.More
import HandS.Replace
import HandS.Iter
import HandS.Zip
import HandS.Style
import HandS.TryOnly
import KE.GoesEnum
import KE.BitLaws
import KE.IntBitsLaws
import HandS.Defaults
import HandS.Conv
import HandS.TupSets
import HandS.OwnEq
import HandS.ExcOwn
import HandS.WordsExc
import HandS.ExcIs
import HandS.ExcField
import KE.KExcIs
import HandS.ExcInit
import HandS.ClsMeth
import HandS.RevTup
import HandS.Rev
import KE.KDictWalk
import KE.KDictCopyH
import KE.KDictOf
import HandS.DictTup
import KE.KDictSum
import KE.KSortTupG
import KE.DatumOrd
import PySem.Challenge.RW_callmatch_k21_charts_looked_at
set_option Elab.async false
set_option linter.all false
set_option maxRecDepth 100000
set_option maxHeartbeats 4000000
namespace Y
open PySem
abbrev D := PyData
abbrev Ky := List (Sum Int Str)
mutual
def beqD : D → D → Bool
  | .none,.none => true
  | .bool a,.bool b => a == b
  | .int a,.int b => decide (a = b)
  | .str a,.str b => decide (a = b)
  | .list a,.list b => beqDs a b
  | .tuple a,.tuple b => beqDs a b
  | .dict a,.dict b => beqDp a b
  | _,_ => false
def beqDp : List (D × D) → List (D × D) → Bool
  | [],[] => true
  | (a,x) :: as,(b,y) :: bs => beqD a b && beqD x y && beqDp as bs
  | _,_ => false
def beqDs : List D → List D → Bool
  | [],[] => true
  | a :: as,b :: bs => beqD a b && beqDs as bs
  | _,_ => false
end
inductive U where
  | d (x : D) | ref (i : Nat) | tup (us : List U)
mutual
def beqU : U → U → Bool
  | .d a,.d b => beqD a b
  | .ref a,.ref b => decide (a = b)
  | .tup a,.tup b => beqUs a b
  | _,_ => false
def beqUs : List U → List U → Bool
  | [],[] => true
  | a :: as,b :: bs => beqU a b && beqUs as bs
  | _,_ => false
end
inductive Cell where
  | lst (ds : List D) | lstU (us : List U)
  | dct (kvs : List (Ky × D)) | dctU (kvs : List (Ky × U)) | dctL (kvs : List (Ky × U))
  | ins (c : Nat) (fs : List (Str × U))
  | exn (c : Nat) (fs : List (Str × D))
  | dctS (kvs : List (Str × Int))
  | dead
abbrev Cs := List Cell
abbrev Rho := List (Option U)
inductive R (α : Type) where
  | ok (a : α) (T : Cs)
  | exc (c : Nat) (fs : List (Str × D)) (T : Cs)
  | fail
def R.bind {α β : Type} : R α → (α → Cs → R β) → R β
  | .ok a T,f => f a T
  | .exc c fs T,_ => .exc c fs T
  | .fail,_ => .fail
@[simp] theorem R.bind_ok {α β : Type} (a : α) (T : Cs) (f : α → Cs → R β) : (R.ok a T).bind f = f a T := rfl
@[simp] theorem R.bind_exc {α β : Type} (c : Nat) (fs : List (Str × D)) (T : Cs) (f : α → Cs → R β) : (R.exc c fs T).bind f = .exc c fs T := rfl
@[simp] theorem R.bind_fail {α β : Type} (f : α → Cs → R β) : (R.fail : R α).bind f = .fail := rfl
def R.ofO {α : Type} (T : Cs) : Option α → R α
  | some a => .ok a T
  | none => .fail
@[simp] theorem ofO_some {α : Type} (T : Cs) (a : α) : R.ofO T (some a) = .ok a T := rfl
@[simp] theorem ofO_none {α : Type} (T : Cs) : R.ofO T (none : Option α) = .fail := rfl
def getC (O T : Cs) (i : Nat) : Option Cell := if i < O.length then O[i]? else T[i - O.length]?
def allD : List U → Option (List D)
  | [] => some []
  | .d x :: r => (allD r).map (x :: ·)
  | _ :: _ => none
def mkT (us : List U) : U := match allD us with
  | some ds => .d (.tuple ds)
  | none => .tup us
def cellOf (us : List U) : Cell := match allD us with
  | some ds => .lst ds
  | none => .lstU us
def mkL (O : Cs) (live : Bool) (us : List U) (T : Cs) : R U :=
  if live then .ok (.ref (O.length + T.length)) (T ++ [cellOf us])
  else match allD us with
    | some ds => .ok (.d (.list ds)) T
    | none => .fail
def seqL (O T : Cs) : U → Option (List U)
  | .d (.list ds) => some (ds.map .d)
  | .ref i => match getC O T i with
    | some (.lst ds) => some (ds.map .d)
    | some (.lstU us) => some us
    | _ => none
  | _ => none
def seqT : U → Option (List U)
  | .d (.tuple ds) => some (ds.map .d)
  | .tup us => some us
  | _ => none
def seqA (O T : Cs) (u : U) : Option (List U) := match seqL O T u with
  | some us => some us
  | none => seqT u
mutual
def tdU (f : Nat → Option D) : U → Option D
  | .d x => some x
  | .tup us => (tdUs f us).map .tuple
  | .ref i => f i
def tdUs (f : Nat → Option D) : List U → Option (List D)
  | [] => some []
  | u :: us => match tdU f u with
    | some x => (tdUs f us).map (x :: ·)
    | none => none
end
def tdR (O T : Cs) : Nat → Nat → Option D
  | 0,_ => none
  | n + 1,i => match getC O T i with
    | some (.lst ds) => some (.list ds)
    | some (.lstU us) => (tdUs (tdR O T n) us).map .list
    | _ => none
def toD (O T : Cs) (n : Nat) (u : U) : Option D := tdU (tdR O T n) u
def toDs (O T : Cs) (n : Nat) (us : List U) : Option (List D) := tdUs (tdR O T n) us
theorem toD_tup (O T : Cs) (n : Nat) (us : List U) : toD O T n (.tup us) = (toDs O T n us).map .tuple := rfl
theorem toD_ref0 (O T : Cs) (i : Nat) : toD O T 0 (.ref i) = none := rfl
theorem toD_refS (O T : Cs) (n i : Nat) : toD O T (n + 1) (.ref i) = match getC O T i with
    | some (.lst ds) => some (.list ds)
    | some (.lstU us) => (toDs O T n us).map .list
    | _ => none := rfl
theorem toDs_nil (O T : Cs) (n : Nat) : toDs O T n [] = some [] := rfl
theorem toDs_cons (O T : Cs) (n : Nat) (u : U) (us : List U) : toDs O T n (u :: us) = match toD O T n u with
    | some x => (toDs O T n us).map (x :: ·)
    | none => none := rfl
@[simp] theorem toD_d (O T : Cs) (n : Nat) (x : D) : toD O T n (.d x) = some x := rfl
inductive Op where | add | sub | mul | fdiv | mod | pow | shl | shr | band | bor | bxor
  deriving DecidableEq
inductive COp where | eq | ne | lt | le | gt | ge | is | isnot | isin | notin
  deriving DecidableEq
inductive BI where | len | list | tuple | tupleN | sum | int | str | abs | max2 | min2 | max1 | min1 | min1P | all | any | isint | isbool | islist | istuple | isdict | isstr | dict | sorted | listK | lenset | sortset | rev | stp (lo : Option Int) (k : Int) | isexn (ks no : List Nat) | xfld (ks : List Nat) (f : Str) | dispS (kvs : List (Str × Int))
  deriving DecidableEq
inductive MT where | append | extend | pop | popAt | insert | reverse | clear | get1 | get2 | setdefault | dclear | dpop | getS | index | join | split | strip | sindex | tindex
  deriving DecidableEq
@[irreducible] def mulOk (i j : Int) : Bool := (decide (-18446744073709551616 < i) && decide (i < 18446744073709551616)) || (decide (-18446744073709551616 < j) && decide (j < 18446744073709551616)) || decide (Builtin.Int.intBits i + Builtin.Int.intBits j ≤ 134217728)
def binI : Op → Int → Int → Option Int
  | .add,i,j => some (i + j)
  | .sub,i,j => some (i - j)
  | .mul,i,j => if mulOk i j then some (i * j) else none
  | .fdiv,i,j => if 0 < j ∧ j < 1000000000000000000000000000000000000000000000000000000000000 then some (i / j) else none
  | .mod,i,j => if 0 < j then some (i % j) else none
  | .pow,i,j => if 0 ≤ j ∧ j ≤ 1000 ∧ -18446744073709551616 < i ∧ i < 18446744073709551616 then some (i ^ j.toNat) else none
  | .shl,i,j => if 0 ≤ j ∧ j ≤ 1000 ∧ -18446744073709551616 < i ∧ i < 18446744073709551616 then some (i * 2 ^ j.toNat) else none
  | .shr,i,j => if 0 ≤ j then some (i / 2 ^ j.toNat) else none
  | .band,i,j => some (Builtin.bitAnd i j)
  | .bor,i,j => some (Builtin.bitOr i j)
  | .bxor,i,j => some (Builtin.bitXor i j)
def sizeOk (n : Nat) : Bool := decide (n ≤ 1000000)
def repS (a : Str) (n : Nat) : Str := if n = 1 then a else ⟨(List.replicate n a.cps).foldl (· ++ ·) #[]⟩
def binU (O : Cs) (live : Bool) (o : Op) (x y : U) (T : Cs) : R U :=
  match o,x,y with
  | o,.d (.int i),.d (.int j) => match binI o i j with
    | some k => .ok (.d (.int k)) T
    | none => .fail
  | .add,.d (.str a),.d (.str b) => if sizeOk (a.length + b.length) then .ok (.d (.str (a ++ b))) T else .fail
  | .add,x,y => match seqL O T x,seqL O T y with
    | some us,some ws => if sizeOk (us.length + ws.length) then mkL O live (us ++ ws) T else .fail
    | none,none => match seqT x,seqT y with
      | some us,some ws => if sizeOk (us.length + ws.length) then .ok (mkT (us ++ ws)) T else .fail
      | _,_ => .fail
    | _,_ => .fail
  | .mul,.d (.str a),.d (.int k) => if decide (0 ≤ k) && decide (k ≤ 1000) && decide (a.length ≤ 1000) && decide (1 ≤ a.length) then .ok (.d (.str (repS a k.toNat))) T else .fail
  | .mul,x,.d (.int k) => match seqL O T x with
    | some us => if decide (0 ≤ k) && decide (k ≤ 1000000) && sizeOk (us.length * k.toNat) then mkL O live (List.replicate k.toNat us).flatten T else .fail
    | none => match seqT x with
      | some us => if !us.isEmpty && decide (1 ≤ k) && decide (k ≤ 1000) && decide (us.length ≤ 1000) then .ok (mkT (List.replicate k.toNat us).flatten) T else .fail
      | none => .fail
  | _,_,_ => .fail
def isNone : U → Bool
  | .d .none => true
  | _ => false
def strsOf : List D → Option (List Str)
  | [] => some []
  | .str i :: r => (strsOf r).map (i :: ·)
  | _ :: _ => none
def ntD (zs : List Str) : D := .dict [(.none,.tuple (zs.map .str))]
def ntOf : D → Option (List Str)
  | .dict [(.none,.tuple ds)] => strsOf ds
  | _ => none
def keyOf1 : D → Option (Sum Int Str)
  | .int i => some (.inl i)
  | .str s => some (.inr s)
  | _ => none
def keysOf : List D → Option Ky
  | [] => some []
  | x :: r => match keyOf1 x,keysOf r with
    | some k,some ks => some (k :: ks)
    | _,_ => none
def keyU : U → Option Ky
  | .d (.tuple ds) => keysOf ds
  | _ => none
def lookK {α : Type} (kvs : List (Ky × α)) (k : Ky) : Option α := (kvs.find? fun p => decide (p.1 = k)).map (·.2)
def putK {α : Type} (kvs : List (Ky × α)) (k : Ky) (v : α) : List (Ky × α) :=
  if kvs.any fun p => decide (p.1 = k) then kvs.map fun p => if p.1 = k then (p.1,v) else p else kvs ++ [(k,v)]
def dictOf (O T : Cs) : U → Option (List (Ky × U))
  | .ref i => match getC O T i with
    | some (.dct kvs) => some (kvs.map fun p => (p.1,.d p.2))
    | some (.dctU kvs) => some kvs
    | some (.dctL kvs) => some kvs
    | _ => none
  | _ => none
def intKs : List (Ky × U) → Option (List (Ky × Int))
  | [] => some []
  | (k,.d (.int i)) :: r => (intKs r).map ((k,i) :: ·)
  | _ :: _ => none
def eqDct (a b : List (Ky × Int)) : Bool := decide (a.length = b.length) && a.all fun p => decide (lookK b p.1 = some p.2)
def eqDU (O T : Cs) (x y : U) : Option Bool := match dictOf O T x,dictOf O T y with
  | some a,some b => match intKs a,intKs b with
    | some a,some b => some (eqDct a b)
    | _,_ => none
  | _,_ => none
def eqTU (O T : Cs) (x y : U) : Option Bool := match x,y with
  | .tup [.ref i,.ref j],.tup [.ref k,.ref l] => if i ≠ k ∧ j ≠ l then
      match eqDU O T (.ref i) (.ref k),eqDU O T (.ref j) (.ref l) with
      | some a,some b => some (a && b)
      | _,_ => none
    else none
  | _,_ => eqDU O T x y
def shp (d : D) : Bool := SeqAt.shaped d
def cmpU (O : Cs) (o : COp) (x y : U) (T : Cs) : Option Bool :=
  match o with
  | .is => if isNone y then some (isNone x) else match x,y with
    | .d (.bool a),.d (.bool b) => some (decide (a = b))
    | _,_ => none
  | .isnot => if isNone y then some (!isNone x) else match x,y with
    | .d (.bool a),.d (.bool b) => some (!decide (a = b))
    | _,_ => none
  | .eq => match toD O T 3 x,toD O T 3 y with
    | some a,some b => if shp a && shp b then some (PyData.eqv a b) else none
    | none,none => eqTU O T x y
    | _,_ => none
  | .ne => match toD O T 3 x,toD O T 3 y with
    | some a,some b => if shp a && shp b then some (!PyData.eqv a b) else none
    | none,some (.list []) => match x with
      | .ref i => match getC O T i with
        | some (.lstU (_ :: _)) => some true
        | _ => none
      | _ => none
    | none,none => (eqDU O T x y).map (!·)
    | _,_ => none
  | .lt => match x,y with
    | .d (.int i),.d (.int j) => some (decide (i < j))
    | .d (.tuple [.int a,.int b]),.d (.tuple [.int c,.int e]) => some (decide (a < c ∨ a = c ∧ b < e))
    | _,_ => none
  | .le => match x,y with
    | .d (.int i),.d (.int j) => some (decide (i ≤ j))
    | _,_ => none
  | .gt => match x,y with
    | .d (.int i),.d (.int j) => some (decide (j < i))
    | _,_ => none
  | .ge => match x,y with
    | .d (.int i),.d (.int j) => some (decide (j ≤ i))
    | _,_ => none
  | .isin => isinU O x y T
  | .notin => (isinU O x y T).map (!·)
where
  isinU (O : Cs) (x y : U) (T : Cs) : Option Bool :=
    match dictOf O T y with
    | some kvs => match keyU x with
      | some k => some (lookK kvs k).isSome
      | none => none
    | none => match x,y with
      | .d (.str c),.d (.str z) => match c with
        | ⟨⟨[k]⟩⟩ => some (decide (k ∈ z.cps.toList))
        | _ => none
      | .d a,.d (.tuple ds) => if flat a && ds.all flat then some (ds.any fun z => PyData.eqv z a) else none
      | .d (.str c),.d (.dict kvs) => (ntOf (.dict kvs)).map fun zs => decide (c ∈ zs)
      | x,y => match toD O T 3 x,toD O T 3 y with
        | some a,some (.list ds) => if shp a && shp (.list ds) then some (ds.any fun z => PyData.eqv z a) else none
        | _,_ => none
  flat : D → Bool
    | .int _ | .str _ | .none | .bool _ => true
    | _ => false
def ixU (O : Cs) (x y : U) (T : Cs) : Option U :=
  match y with
  | .d (.int i) => match x with
    | .d (.list ds) => (L2.atI ds i).map .d
    | .d (.tuple ds) => (L2.atI ds i).map .d
    | .d (.str s) => if sizeOk s.length then (L2.atI s.cps.toList i).map fun c => .d (.str ⟨#[c]⟩) else none
    | .d (.dict kvs) => ((ntOf (.dict kvs)).bind fun zs => L2.atI zs i).map fun s => .d (.str s)
    | .tup us => L2.atI us i
    | .ref r => match getC O T r with
      | some (.lst ds) => (L2.atI ds i).map .d
      | some (.lstU us) => L2.atI us i
      | _ => none
    | _ => none
  | y => match dictOf O T x,keyU y with
    | some kvs,some k => lookK kvs k
    | _,_ => none
def cut {α : Type} (xs : List α) (lo hi : Option Int) : List α := (xs.drop (HT.sIx xs.length 0 lo)).take (HT.sIx xs.length xs.length hi - HT.sIx xs.length 0 lo)
def slcU (O : Cs) (live : Bool) (x : U) (l h : Option Int) (T : Cs) : R U := match seqL O T x with
  | some us => mkL O live (cut us l h) T
  | none => match seqT x with
    | some us => .ok (mkT (cut us l h)) T
    | none => match x with
      | .d (.str s) => if sizeOk s.length then .ok (.d (.str ⟨(cut s.cps.toList l h).toArray⟩)) T else .fail
      | _ => .fail
def setC (O T : Cs) (i : Nat) (c : Cell) : R U := if O.length ≤ i ∧ i < O.length + T.length then .ok (.d .none) (T.set (i - O.length) c) else .fail
def setiU (O : Cs) (o i v : U) (T : Cs) : R U :=
  match o with
  | .ref r => match getC O T r with
    | some (.lst ds) => match i with
      | .d (.int k) => match L2.ixN ds.length k with
        | some j => match v with
          | .d x => setC O T r (.lst (ds.set j x))
          | v => setC O T r (.lstU ((ds.map .d).set j v))
        | none => .fail
      | _ => .fail
    | some (.lstU us) => match i with
      | .d (.int k) => match L2.ixN us.length k with
        | some j => setC O T r (.lstU (us.set j v))
        | none => .fail
      | _ => .fail
    | some (.dct kvs) => match keyU i with
      | some k => if sizeOk kvs.length then match v with
        | .d x => setC O T r (.dct (putK kvs k x))
        | v => if kvs.isEmpty then setC O T r (.dctU [(k,v)]) else .fail
        else .fail
      | none => .fail
    | some (.dctU kvs) => match keyU i with
      | some k => if sizeOk kvs.length then setC O T r (.dctU (putK kvs k v)) else .fail
      | none => .fail
    | _ => .fail
  | _ => .fail
def fldU (O : Cs) (o : U) (f : Str) (T : Cs) : Option U :=
  match o with
  | .ref r => match getC O T r with
    | some (.ins _ fs) => fs.lookup f
    | _ => none
  | _ => none
def putFU (f : Str) (v : U) : List (Str × U) → List (Str × U)
  | [] => [(f,v)]
  | (g,x) :: r => if g = f then (g,v) :: r else (g,x) :: putFU f v r
def setfU (O : Cs) (o : U) (f : Str) (v : U) (T : Cs) : R U :=
  match o with
  | .ref r => match getC O T r with
    | some (.ins c fs) => if fs.length < 100 then setC O T r (.ins c (putFU f v fs)) else .fail
    | _ => .fail
  | _ => .fail
def intsOf : List D → Option (List Int)
  | [] => some []
  | .int i :: r => (intsOf r).map (i :: ·)
  | _ :: _ => none
def boolsOf : List D → Option (List Bool)
  | [] => some []
  | .bool i :: r => (boolsOf r).map (i :: ·)
  | _ :: _ => none
def listD (O T : Cs) (u : U) : Option (List D) := match u with
  | .d (.list ds) => some ds
  | .ref i => match getC O T i with
    | some (.lst ds) => some ds
    | _ => none
  | _ => none
def one (us : List U) (f : U → R U) : R U := match us with
  | [x] => f x
  | _ => .fail
def two (us : List U) (f : U → U → R U) : R U := match us with
  | [x,y] => f x y
  | _ => .fail
@[simp] theorem one_one (x : U) (f : U → R U) : one [x] f = f x := rfl
@[simp] theorem two_two (x y : U) (f : U → U → R U) : two [x,y] f = f x y := rfl
def lenB (O T : Cs) (x : U) : R U := match x with
  | .d (.str s) => if sizeOk s.length then .ok (.d (.int s.length)) T else .fail
  | x => match seqA O T x with
    | some us => .ok (.d (.int us.length)) T
    | none => match dictOf O T x with
      | some kvs => .ok (.d (.int kvs.length)) T
      | none => match x with
        | .d d => match ntOf d with
          | some zs => .ok (.d (.int zs.length)) T
          | none => .fail
        | _ => .fail
def difS (l : List Str) (x : Str) : List Str := if x ∈ l then l else l ++ [x]
def dif (xs : List Str) : List Str := xs.foldl difS []
def lensetB (O T : Cs) (x : U) : R U := match (seqL O T x).bind allD with
  | some ds => match strsOf ds with
    | some zs => if zs.length ≤ 60 then .ok (.d (.int (dif zs).length)) T else .fail
    | none => .fail
  | none => .fail
def listB (O : Cs) (l : Bool) (T : Cs) (x : U) : R U := match seqA O T x with
  | some us => mkL O l us T
  | none => .fail
def tupleB (O T : Cs) (x : U) : R U := match seqL O T x with
  | some us => .ok (mkT us) T
  | none => match seqT x with
    | some _ => .ok x T
    | none => .fail
def tupleNB (O T : Cs) (x : U) : R U := match (seqL O T x).bind allD with
  | some ds => match strsOf ds with
    | some zs => .ok (.d (ntD zs)) T
    | none => .fail
  | none => .fail
def sumB (O T : Cs) (x : U) : R U := match (listD O T x).bind intsOf with
  | some ns => .ok (.d (.int ns.sum)) T
  | none => .fail
def allB (O T : Cs) (x : U) : R U := match (listD O T x).bind boolsOf with
  | some bs => .ok (.d (.bool (bs.all id))) T
  | none => .fail
def anyB (O T : Cs) (x : U) : R U := match (listD O T x).bind boolsOf with
  | some bs => .ok (.d (.bool (bs.any id))) T
  | none => .fail
def intB (T : Cs) (x : U) : R U := match x with
  | .d (.int i) => .ok (.d (.int i)) T
  | .d (.bool b) => .ok (.d (.int (if b then 1 else 0))) T
  | .d (.str s) => match PySem.intText? s with
    | some n => if decide (s.length ≤ 640) then .ok (.d (.int n)) T else .fail
    | none => .fail
  | _ => .fail
@[irreducible] def strOk (i : Int) : Bool := decide (i.natAbs.log2 < 1920)
def strB (T : Cs) (x : U) : R U := match x with
  | .d (.int i) => if strOk i then .ok (.d (.str (toString i))) T else .fail
  | _ => .fail
def absB (T : Cs) (x : U) : R U := match x with
  | .d (.int i) => .ok (.d (.int (if i < 0 then -i else i))) T
  | _ => .fail
def max2B (T : Cs) (x y : U) : R U := match x,y with
  | .d (.int i),.d (.int j) => .ok (.d (.int (if j > i then j else i))) T
  | _,_ => .fail
def min2B (T : Cs) (x y : U) : R U := match x,y with
  | .d (.int i),.d (.int j) => .ok (.d (.int (if j < i then j else i))) T
  | _,_ => .fail
def maxL (n : Int) (ns : List Int) : Int := ns.foldl (fun a b => if b > a then b else a) n
def max1B (O T : Cs) (x : U) : R U := match (listD O T x).bind intsOf with
  | some (n :: ns) => .ok (.d (.int (maxL n ns))) T
  | _ => .fail
def minL (n : Int) (ns : List Int) : Int := ns.foldl (fun a b => if b < a then b else a) n
def min1B (O T : Cs) (x : U) : R U := match (listD O T x).bind intsOf with
  | some (n :: ns) => .ok (.d (.int (minL n ns))) T
  | _ => .fail
def ky2 (n : Int) : Sum Int Str → Bool
  | .inl i => decide (0 ≤ i) && decide (i < n)
  | .inr _ => false
def boxK : Ky → Bool
  | [a,b,c] => ky2 6 a && ky2 10 b && ky2 6 c
  | [a,b,c,d] => ky2 6 a && ky2 6 b && ky2 10 c && ky2 6 d
  | _ => false
def dictB (O T : Cs) (x : U) : R U := match x with
  | .ref r => match getC O T r with
    | some (.dct kvs) => if kvs.all (fun p => boxK p.1) && sizeOk kvs.length then .ok (.ref (O.length + T.length)) (T ++ [.dct kvs]) else .fail
    | _ => .fail
  | _ => .fail
def ltK : Ky → Ky → Bool
  | [],[] => false
  | [],_ :: _ => true
  | _ :: _,[] => false
  | .inl a :: r,.inl b :: t => decide (a < b) || (decide (a = b) && ltK r t)
  | _,_ => false
def insK (k : Ky) : List Ky → List Ky
  | [] => [k]
  | x :: r => if ltK x k then x :: insK k r else k :: x :: r
def sortK : List Ky → List Ky
  | [] => []
  | k :: r => insK k (sortK r)
def kyD : Ky → D := fun k => .tuple (k.map fun | .inl i => .int i | .inr s => .str s)
def sortB (O : Cs) (l : Bool) (T : Cs) (x : U) : R U := match x with
  | .ref r => match getC O T r with
    | some (.dct kvs) => if kvs.all (fun p => boxK p.1) && sizeOk kvs.length && (kvs.all (fun p => decide (p.1.length = 3)) || kvs.all (fun p => decide (p.1.length = 4))) then
        mkL O l ((sortK (kvs.map (·.1))).map fun k => .d (kyD k)) T else .fail
    | _ => .fail
  | _ => .fail
def listKB (O : Cs) (l : Bool) (T : Cs) (x : U) : R U := match x with
  | .ref r => match getC O T r with
    | some (.dct kvs) => mkL O l ((kvs.map (·.1)).map fun k => .d (kyD k)) T
    | _ => .fail
  | _ => .fail
inductive Ty where | non | bool | int | str | list | tuple | dict
  deriving DecidableEq
def tyU (O T : Cs) : U → Option Ty
  | .d .none => some .non
  | .d (.bool _) => some .bool
  | .d (.int _) => some .int
  | .d (.str _) => some .str
  | .d (.list _) => some .list
  | .d (.tuple _) => some .tuple
  | .tup _ => some .tuple
  | .ref i => match getC O T i with
    | some (.lst _) | some (.lstU _) => some .list
    | some (.dct _) | some (.dctU _) => some .dict
    | some (.dctS _) => some .dict
    | _ => none
  | _ => none
def tyM (O T : Cs) : U → Option Ty
  | .ref i => match getC O T i with
    | some (.lst _) | some (.lstU _) => some .list
    | some (.dct _) | some (.dctU _) => some .dict
    | some (.dctL _) => some .dict
    | some (.dctS _) => some .dict
    | _ => none
  | .d (.dict _) => some .tuple
  | x => tyU O T x
theorem tyM_of {O T : Cs} {x : U} {t : Ty} (h : tyU O T x = some t) : tyM O T x = some t := by
  cases x with
  | ref i =>
    unfold tyU at h
    unfold tyM
    simp only at h ⊢
    split at h
    · rename_i e; rw [e]; exact h
    · rename_i e; rw [e]; exact h
    · rename_i e; rw [e]; exact h
    · rename_i e; rw [e]; exact h
    · rename_i e; rw [e]; exact h
    · cases h
  | d y => cases y <;> first | exact h | cases h
  | tup _ => exact h
def isB (O T : Cs) (t : Ty) (x : U) : R U := match tyU O T x with
  | some a => .ok (.d (.bool (decide (a = t) || (decide (a = .bool) && decide (t = .int))))) T
  | none => .fail
def pickS {α : Type} (lo : Option Int) (k : Int) (us : List α) : List α :=
  (sliceRange (sliceBounds lo none (some k) us.length).1 (sliceBounds lo none (some k) us.length).2.1 (sliceBounds lo none (some k) us.length).2.2).filterMap fun i => us[i]?
def stpB (O : Cs) (live : Bool) (lo : Option Int) (k : Int) (T : Cs) (x : U) : R U := match seqL O T x with
  | some us => if decide (1 ≤ k) then mkL O live (pickS lo k us) T else .fail
  | none => .fail
def isexnB (O T : Cs) (ks no : List Nat) (x : U) : R U := match x with
  | .ref i => match getC O T i with
    | some (.exn k _) => if k ∈ ks then .ok (.d (.bool true)) T else if k ∈ no then .ok (.d (.bool false)) T else .fail
    | _ => .fail
  | _ => .fail
def xfldB (O T : Cs) (ks : List Nat) (f : Str) (x : U) : R U := match x with
  | .ref i => match getC O T i with
    | some (.exn k fs) => if k ∈ ks then match fs.lookup f with
      | some v => .ok (.d v) T
      | none => .fail
      else .fail
    | _ => .fail
  | _ => .fail
def pairsOf : List D → Option (List (Int × Int))
  | [] => some []
  | .tuple [.int a,.int b] :: r => if 0 ≤ a ∧ a < 64 ∧ 0 ≤ b ∧ b < 64 then (pairsOf r).map ((a,b) :: ·) else none
  | _ => none
def pairN (z : Int × Int) : Nat := (z.1 * 64 + z.2).toNat
def sortP (zs : List (Int × Int)) : List (Int × Int) := ((List.range 4096).filter fun c => (zs.map pairN).contains c).map fun c => (((c / 64 : Nat) : Int),((c % 64 : Nat) : Int))
def pairD (z : Int × Int) : D := .tuple [.int z.1,.int z.2]
def sortsetB (O : Cs) (l : Bool) (T : Cs) (x : U) : R U := match (seqL O T x).bind allD with
  | some ds => match pairsOf ds with
    | some zs => if zs.length < 64 then mkL O l ((sortP zs).map fun z => .d (pairD z)) T else .fail
    | none => .fail
  | none => .fail
def pairsI : List D → Option (List (Int × Int))
  | [] => some []
  | .tuple [.int a,.int b] :: r => (pairsI r).map ((a,b) :: ·)
  | _ => none
def minP (p : Int × Int) (ps : List (Int × Int)) : Int × Int := ps.foldl (fun a b => if b.1 < a.1 ∨ b.1 = a.1 ∧ b.2 < a.2 then b else a) p
def min1PB (O T : Cs) (x : U) : R U := match (listD O T x).bind pairsI with
  | some (p :: ps) => .ok (.d (pairD (minP p ps))) T
  | _ => .fail
def revB (O : Cs) (l : Bool) (T : Cs) (x : U) : R U := match seqL O T x with
  | some us => if sizeOk us.length then mkL O l us.reverse T else .fail
  | none => .fail
def biU (O : Cs) (live : Bool) (b : BI) (us : List U) (T : Cs) : R U :=
  match b with
  | .len => one us (lenB O T)
  | .list => one us (listB O live T)
  | .tuple => one us (tupleB O T)
  | .tupleN => one us (tupleNB O T)
  | .sum => one us (sumB O T)
  | .all => one us (allB O T)
  | .any => one us (anyB O T)
  | .int => one us (intB T)
  | .str => one us (strB T)
  | .abs => one us (absB T)
  | .max2 => two us (max2B T)
  | .min2 => two us (min2B T)
  | .isint => one us (isB O T .int)
  | .isbool => one us (isB O T .bool)
  | .isstr => one us (isB O T .str)
  | .islist => one us (isB O T .list)
  | .istuple => one us (isB O T .tuple)
  | .isdict => one us (isB O T .dict)
  | .max1 => one us (max1B O T)
  | .min1 => one us (min1B O T)
  | .min1P => one us (min1PB O T)
  | .dict => one us (dictB O T)
  | .sorted => one us (sortB O live T)
  | .listK => one us (listKB O live T)
  | .dispS kvs => match us with
    | [] => .ok (.ref (O.length + T.length)) (T ++ [.dctS kvs])
    | _ => .fail
  | .lenset => one us (lensetB O T)
  | .sortset => one us (sortsetB O live T)
  | .rev => one us (revB O live T)
  | .stp lo k => one us (stpB O live lo k T)
  | .isexn ks no => one us (isexnB O T ks no)
  | .xfld ks f => one us (xfldB O T ks f)
def appU (O : Cs) (r : Nat) (v : U) (T : Cs) : R U := match getC O T r with
  | some (.lst ds) => if sizeOk ds.length then match v with
    | .d x => setC O T r (.lst (ds ++ [x]))
    | v => setC O T r (.lstU (ds.map .d ++ [v]))
    else .fail
  | some (.lstU us) => if sizeOk us.length then setC O T r (.lstU (us ++ [v])) else .fail
  | _ => .fail
def mtU (O : Cs) (live : Bool) (m : MT) (o : U) (as : List U) (T : Cs) : R U :=
  match m,o,as with
  | .append,.ref r,[v] => appU O r v T
  | .extend,.ref r,[v] => match getC O T r,seqL O T v with
    | some (.lst ds),some ws => if sizeOk (ds.length + ws.length) then setC O T r (cellOf (ds.map .d ++ ws)) else .fail
    | some (.lstU us),some ws => if sizeOk (us.length + ws.length) then setC O T r (.lstU (us ++ ws)) else .fail
    | _,_ => .fail
  | .pop,.ref r,[] => match getC O T r with
    | some (.lst ds) => match ds.getLast? with
      | some x => (setC O T r (.lst ds.dropLast)).bind fun _ T => .ok (.d x) T
      | none => .fail
    | some (.lstU us) => match us.getLast? with
      | some x => (setC O T r (.lstU us.dropLast)).bind fun _ T => .ok x T
      | none => .fail
    | _ => .fail
  | .popAt,.ref r,[.d (.int i)] => match getC O T r with
    | some (.lst ds) => if decide (-1000000 ≤ i) && decide (i ≤ 1000000) then match PySem.seqIndex? i ds.length with
      | some k => match ds[k]? with
        | some x => (setC O T r (.lst (ds.eraseIdx k))).bind fun _ T => .ok (.d x) T
        | none => .fail
      | none => .fail
      else .fail
    | _ => .fail
  | .insert,.ref r,[.d (.int i),.d x] => match getC O T r with
    | some (.lst ds) => if decide (0 ≤ i) && decide (i ≤ 1000000) && sizeOk ds.length then setC O T r (.lst (ds.take i.toNat ++ [x] ++ ds.drop i.toNat)) else .fail
    | _ => .fail
  | .reverse,.ref r,[] => match getC O T r with
    | some (.lst ds) => setC O T r (.lst ds.reverse)
    | some (.lstU us) => setC O T r (.lstU us.reverse)
    | _ => .fail
  | .clear,.ref r,[] => match getC O T r with
    | some (.lst _) | some (.lstU _) => setC O T r (.lst [])
    | _ => .fail
  | .get1,o,[k] => match dictOf O T o,keyU k with
    | some kvs,some k => .ok ((lookK kvs k).getD (.d .none)) T
    | _,_ => .fail
  | .get2,o,[k,v] => match dictOf O T o,keyU k with
    | some kvs,some k => .ok ((lookK kvs k).getD v) T
    | _,_ => .fail
  | .setdefault,.ref r,[k,v] => match dictOf O T (.ref r),keyU k with
    | some kvs,some k' => match lookK kvs k' with
      | some x => .ok x T
      | none => (setiU O (.ref r) k v T).bind fun _ T => .ok v T
    | _,_ => .fail
  | .dclear,.ref r,[] => match getC O T r with
    | some (.dct _) | some (.dctU _) => setC O T r (.dct [])
    | _ => .fail
  | .dpop,.ref r,[k] => match getC O T r with
    | some (.dct kvs) => match keyU k with
      | some k => match lookK kvs k with
        | some x => (setC O T r (.dct (kvs.filter fun p => decide (p.1 ≠ k)))).bind fun _ T => .ok (.d x) T
        | none => .fail
      | none => .fail
    | _ => .fail
  | .getS,.ref r,[.d (.str s),.d (.int d)] => match getC O T r with
    | some (.dctS kvs) => .ok (.d (.int ((kvs.lookup s).getD d))) T
    | _ => .fail
  | .index,o,[.d y] => match (seqL O T o).bind allD with
    | some ds => if cmpU.flat y && ds.all cmpU.flat then match ds.findIdx? (fun z => PyData.eqv z y) with
      | some j => .ok (.d (.int (j : Nat))) T
      | none => .fail
      else .fail
    | none => .fail
  | .join,.d (.str s),[x] => match (seqA O T x).bind allD with
    | some ds => match strsOf ds with
      | some zs => if sizeOk ((zs.map (·.length)).sum + zs.length * s.length) then .ok (.d (.str (Txt.join s zs))) T else .fail
      | none => .fail
    | none => .fail
  | .sindex,.d (.str s),[.d (.str z)] => match Builtin.Str.occurrences s z 0 s.length 1 with
    | i :: _ => .ok (.d (.int (i : Nat))) T
    | [] => .fail
  | .tindex,.d x,[.d (.str z)] => match ntOf x with
    | some zs => match zs.findIdx? (fun y => decide (y = z)) with
      | some j => .ok (.d (.int (j : Nat))) T
      | none => .fail
    | none => .fail
  | .strip,.d (.str s),[] => if sizeOk s.length then .ok (.d (.str (Txt.strip s))) T else .fail
  | .split,.d (.str s),[.d (.str z)] => if sizeOk s.length && !(z.length == 0) then mkL O live ((Txt.split s z).map fun x => .d (.str x)) T else .fail
  | _,_,_ => .fail
def frzU (O : Cs) (x : U) (T : Cs) : R U :=
  match x with
  | .ref r => match getC O T r with
    | some (.lst ds) => (setC O T r .dead).bind fun _ T => .ok (.d (.list ds)) T
    | _ => .fail
  | x => .ok x T
end Y
namespace Y
open PySem
mutual
inductive Tg where | nm (i : Nat) | tp (ts : Tgs) | lp (ts : Tgs)
inductive Tgs where | nil | cons (t : Tg) (ts : Tgs)
end
mutual
def asgT (O T : Cs) : Tg → U → Rho → Option Rho
  | .nm i,u,ρ => some (ρ.set i (some u))
  | .tp ts,u,ρ => match seqT u with
    | some us => asgTs O T ts us ρ
    | none => none
  | .lp ts,u,ρ => match seqL O T u with
    | some us => asgTs O T ts us ρ
    | none => none
def asgTs (O T : Cs) : Tgs → List U → Rho → Option Rho
  | .nil,[],ρ => some ρ
  | .cons t ts,u :: us,ρ => match asgT O T t u ρ with
    | some ρ' => asgTs O T ts us ρ'
    | none => none
  | _,_,_ => none
end
mutual
inductive CE where
  | v (i : Nat) | c (x : D) | g (k : Nat) | skip
  | bin (live : Bool) (o : Op) (a b : CE) | neg (a : CE)
  | cmp (o : COp) (a b : CE) | chain (o o' : COp) (a b e : CE)
  | and (a b : CE) | or (a b : CE) | not (a : CE) | ite (t a b : CE)
  | tup (as : CA) | lst (live : Bool) (as : CA)
  | ix (a b : CE) | slc (live : Bool) (a lo hi : CE)
  | call (live : Bool) (f : Nat) (as : CA) (ds : List D)
  | bi (live : Bool) (b : BI) (as : CA)
  | mt (live : Bool) (m : MT) (o : CE) (as : CA)
  | mcall (c f : Nat) (m : Str) (o : CE) (as : CA)
  | mk (c f : Nat) (as : CA)
  | fld (c : Nat) (o : CE) (f : Str)
  | comp (live : Bool) (elt : CE) (tg : Tg) (it : IT) (t : CE) (own : List Nat)
  | dict0
  | frz (a : CE)
  | lockE (a e : CE)
  | frzL (x : Nat) (e : CE)
inductive CA where | nil | cons (a : CE) (r : CA)
inductive IT where
  | lst (a : CE) | tup (a : CE) | rng1 (a : CE) | rng2 (a b : CE) | rng3 (a b c : CE) | enumL (a : CE) | enumT (a : CE) | revL (a : CE) | zipL (a b : CE) | zipTL (a b : CE)
  | keys (a : CE) | items (a : CE) | str (a : CE) | keysF (a : CE) | itemsF (a : CE) | valsF (a : CE)
end
mutual
inductive CS where
  | asg (g : Tg) (e : CE) | setf (c : Nat) (o : CE) (f : Str) (e : CE) | seti (o i e : CE) | augf (c : Nat) (o : CE) (f : Str) (e : CE)
  | ex (e : CE) | ret (e : CE) | retN | brk | cnt | pass
  | ite (t : CE) (a b : CB) | for_ (g : Tg) (it : IT) (b : CB) | wh (n : Nat) (t : CE) (b : CB)
  | bad
  | lock (a : CE) (s : CS) | asg2 (i j : Nat) (a b : CE) | setf2 (c x : Nat) (f g : Str) (e : CE)
  | raise (c : Nat) (ns : List Str) (as : CA) | xcall (g : Option Nat) (live : Bool) (f : Nat) (as : CA) | try_ (b : CB) (ks : List Nat) (sl : Option Nat) (s : CB)
inductive CB where | nil | cons (s : CS) (b : CB)
end
structure Cn where
  call : Cs → Nat → List U → Cs → R U
  make : Cs → Nat → List U → Cs → R U
  glob : Nat → Option D
def mtTy : MT → Ty
  | .get1 | .get2 | .setdefault | .dclear | .dpop | .getS => .dict
  | .join | .split | .strip | .sindex => .str
  | .tindex => .tuple
  | _ => .list
def clsOf (O T : Cs) : U → Option Nat
  | .ref r => match getC O T r with
    | some (.ins c _) => some c
    | _ => none
  | _ => none
def callP (C : Cn) (O : Cs) (f : Nat) (us : List U) (T : Cs) : R U :=
  match C.call (O ++ T) f us [] with
  | .ok u T' => match u with
    | .d x => .ok (.d x) T
    | .ref i => if O.length + T.length ≤ i then match getC (O ++ T) T' i with
        | some (.lst ds) => .ok (.d (.list ds)) T
        | _ => .fail
      else .fail
    | .tup _ => .fail
  | .exc c fs _ => .exc c fs T
  | .fail => .fail
def wipeR (ρ : Rho) : List Nat → Rho
  | [] => ρ
  | v :: vs => (wipeR ρ vs).set v none
structure Its where
  us : List U
  w : Option Nat
  t : Cs
def watch : U → Option Nat
  | .ref i => some i
  | _ => none
def beqDk : List (Ky × D) → List (Ky × D) → Bool
  | [],[] => true
  | (k,x) :: a,(l,y) :: b => decide (k = l) && beqD x y && beqDk a b
  | _,_ => false
def beqUk : List (Ky × U) → List (Ky × U) → Bool
  | [],[] => true
  | (k,x) :: a,(l,y) :: b => decide (k = l) && beqU x y && beqUk a b
  | _,_ => false
def beqC : Cell → Cell → Bool
  | .lst a,.lst b => beqDs a b
  | .lstU a,.lstU b => beqUs a b
  | .dct a,.dct b => beqDk a b
  | .dctU a,.dctU b => beqUk a b
  | .dctL a,.dctL b => beqUk a b
  | .dctS a,.dctS b => decide (a = b)
  | _,_ => false
def sameW (O T T' : Cs) : Option Nat → Bool
  | none => true
  | some i => match getC O T i,getC O T' i with
    | some c,some c' => beqC c c'
    | _,_ => false
def kD : Sum Int Str → D
  | .inl i => .int i
  | .inr s => .str s
def keyD (k : Ky) : D := .tuple (k.map kD)
def rngU (lo : Int) (n : Nat) (c : Int) : List U := (List.range n).map fun i => .d (.int (lo + (i : Nat) * c))
@[irreducible] def rngN (i j k : Int) : Nat := if i < j then ((j - i - 1) / k + 1).toNat else 0
@[irreducible] def rngOk (i j : Int) : Bool := decide (-4611686018427387904 ≤ i) && decide (i < 4611686018427387904) && decide (-4611686018427387904 ≤ j) && decide (j < 4611686018427387904)
inductive F where
  | nx (ρ : Rho) (T : Cs) | rt (u : U) (T : Cs) | bk (ρ : Rho) (T : Cs) | ct (ρ : Rho) (T : Cs)
  | exc (c : Nat) (fs : List (Str × D)) (ρ : Rho) (T : Cs) | fail
def F.of (ρ : Rho) : R U → (U → Cs → F) → F
  | .ok u T,k => k u T
  | _,_ => .fail
@[simp] theorem F.of_ok (ρ : Rho) (u : U) (T : Cs) (k : U → Cs → F) : F.of ρ (.ok u T) k = k u T := rfl
@[simp] theorem F.of_exc (ρ : Rho) (c : Nat) (fs : List (Str × D)) (T : Cs) (k : U → Cs → F) : F.of ρ (.exc c fs T) k = .fail := rfl
@[simp] theorem F.of_fail (ρ : Rho) (k : U → Cs → F) : F.of ρ .fail k = .fail := rfl
def asB : U → Option Bool
  | .d (.bool b) => some b
  | _ => none
def brB {α : Type} (o : Option Bool) (p q : R α) : R α := match o with
  | some true => p
  | some false => q
  | none => .fail
@[simp] theorem brB_t {α : Type} (p q : R α) : brB (some true) p q = p := rfl
@[simp] theorem brB_f {α : Type} (p q : R α) : brB (some false) p q = q := rfl
@[simp] theorem brB_d {α : Type} (c : Prop) [Decidable c] (p q : R α) : brB (some (decide c)) p q = if c then p else q := by
  by_cases h : c <;> simp [h]
@[simp] theorem brB_b {α : Type} (b : Bool) (p q : R α) : brB (some b) p q = if b = true then p else q := by cases b <;> rfl
def partU (u : U) (T : Cs) : R (Option Int) := match u with
  | .d (.int i) => .ok (some i) T
  | _ => .fail
def isSkip : CE → Bool
  | .skip => true
  | _ => false
theorem R.bind_bind {α β γ : Type} (r : R α) (f : α → Cs → R β) (g : β → Cs → R γ) : (r.bind f).bind g = r.bind fun a T => (f a T).bind g := by cases r <;> rfl
theorem brB_bind {α β : Type} (o : Option Bool) (p q : R α) (g : α → Cs → R β) : (brB o p q).bind g = brB o (p.bind g) (q.bind g) := by
  cases o with
  | none => rfl
  | some b => cases b <;> rfl
def putC (n : Nat) (oy : Option U) (T : Cs) : R Unit := match oy with
  | none => .ok () T
  | some y => match T[n]? with
    | some (.lstU acc) => if sizeOk acc.length then .ok () (T.set n (.lstU (acc ++ [y]))) else .fail
    | _ => .fail
def compC (elt : U → Cs → R (Option U)) (ok : Cs → Bool) (n : Nat) : List U → Cs → R Unit
  | [],T => if ok T then .ok () T else .fail
  | u :: us,T => if ok T then (elt u T).bind fun oy T' => (putC n oy T').bind fun _ T'' => compC elt ok n us T'' else .fail
def beqFs : List (Str × U) → List (Str × U) → Bool
  | [],[] => true
  | (k,x) :: a,(l,y) :: b => decide (k = l) && beqU x y && beqFs a b
  | _,_ => false
def beqA : Cell → Cell → Bool
  | .lst a,.lst b => beqDs a b
  | .lstU a,.lstU b => beqUs a b
  | .dct a,.dct b => beqDk a b
  | .dctU a,.dctU b => beqUk a b
  | .dctL a,.dctL b => beqUk a b
  | .dctS a,.dctS b => decide (a = b)
  | .ins c a,.ins d b => decide (c = d) && beqFs a b
  | .dead,.dead => true
  | .exn c a,.exn d b => decide (c = d) && beqFs (a.map fun p => (p.1,.d p.2)) (b.map fun p => (p.1,.d p.2))
  | _,_ => false
def beqCs : Cs → Cs → Bool
  | [],[] => true
  | a :: as,b :: bs => beqA a b && beqCs as bs
  | _,_ => false
def compE (O : Cs) (live : Bool) (T0 T' : Cs) : R U := match T'[T0.length]? with
  | some (.lstU acc) => if live then .ok (.ref (O.length + T0.length)) (T'.set T0.length (cellOf acc))
    else match allD acc with
      | some ds => if beqCs (T'.take T0.length) T0 && decide (T'.length = T0.length + 1) then .ok (.d (.list ds)) T0 else .ok (.d (.list ds)) (T'.set T0.length .dead)
      | none => .fail
  | _ => .fail
def dctKs : Cell → Option (List (Ky × U))
  | .dct kvs => some (kvs.map fun p => (p.1,.d p.2))
  | .dctU kvs => some kvs
  | _ => none
def isL (T : Cs) (i : Nat) : Bool := match T[i]? with
  | some (.dctL _) => true
  | _ => false
def unlR {α : Type} (i : Nat) (c : Cell) : R α → R α
  | .ok a T => if isL T i then .ok a (T.set i c) else .fail
  | _ => .fail
def unlF (i : Nat) (c : Cell) : F → F
  | .nx ρ T => if isL T i then .nx ρ (T.set i c) else .fail
  | .rt u T => if isL T i then .rt u (T.set i c) else .fail
  | .bk ρ T => if isL T i then .bk ρ (T.set i c) else .fail
  | .ct ρ T => if isL T i then .ct ρ (T.set i c) else .fail
  | _ => .fail
def lockAt (O T : Cs) : R U → Option (Nat × Cell × List (Ky × U))
  | .ok (.ref r) _ => if O.length ≤ r then match T[r - O.length]? with
    | some c => (dctKs c).map fun k => (r - O.length,c,k)
    | none => none
    else none
  | _ => none
mutual
def noLD : D → Bool
  | .list _ => false
  | .dict _ => false
  | .tuple ds => noLDs ds
  | _ => true
def noLDs : List D → Bool
  | [] => true
  | d :: ds => noLD d && noLDs ds
end
mutual
def noLU : U → Bool
  | .d x => noLD x
  | .ref _ => true
  | .tup us => noLUs us
def noLUs : List U → Bool
  | [] => true
  | u :: us => noLU u && noLUs us
end
def noLK : List (Ky × D) → Bool
  | [] => true
  | p :: r => noLD p.2 && noLK r
def thw : Cell → Cell
  | .lst ds => if noLDs ds then .lst ds else .dead
  | .dct kvs => if noLK kvs then .dct kvs else .dead
  | _ => .dead
def frzAt (O : Cs) (ρ : Rho) (T : Cs) (x : Nat) : Option (Nat × List D) := match ρ[x]? with
  | some (some (.ref r)) => if O.length = 0 then match T[r]? with
    | some (.lst ds) => some (r,ds)
    | _ => none
    else none
  | _ => none
def thwR (j : Nat) (ds : List D) : R U → R U
  | .ok u T => if noLU u then .ok u ((T.map thw).set j (.lst ds)) else .fail
  | _ => .fail
mutual
def den (C : Cn) (O : Cs) (ρ : Rho) : CE → Cs → R U
  | .v i,T => match ρ[i]? with
    | some (some u) => .ok u T
    | _ => .fail
  | .c x,T => .ok (.d x) T
  | .g k,T => match C.glob k with
    | some x => .ok (.d x) T
    | none => .fail
  | .skip,T => .ok (.d .none) T
  | .bin live o a b,T => (den C O ρ a T).bind fun x T => (den C O ρ b T).bind fun y T => binU O live o x y T
  | .neg a,T => (den C O ρ a T).bind fun x T => match x with
    | .d (.int i) => .ok (.d (.int (-i))) T
    | _ => .fail
  | .cmp o a b,T => (den C O ρ a T).bind fun x T => (den C O ρ b T).bind fun y T => match cmpU O o x y T with
    | some k => .ok (.d (.bool k)) T
    | none => .fail
  | .chain o o' a b e,T => (den C O ρ a T).bind fun x T => (den C O ρ b T).bind fun y T => match cmpU O o x y T with
    | some true => (den C O ρ e T).bind fun z T => match cmpU O o' y z T with
      | some k => .ok (.d (.bool k)) T
      | none => .fail
    | some false => .ok (.d (.bool false)) T
    | none => .fail
  | .and a b,T => (den C O ρ a T).bind fun x T => brB (asB x) (den C O ρ b T) (.ok (.d (.bool false)) T)
  | .or a b,T => (den C O ρ a T).bind fun x T => brB (asB x) (.ok (.d (.bool true)) T) (den C O ρ b T)
  | .not a,T => (den C O ρ a T).bind fun x T => match asB x with
    | some b => .ok (.d (.bool (!b))) T
    | none => .fail
  | .ite t a b,T => (den C O ρ t T).bind fun x T => brB (asB x) (den C O ρ a T) (den C O ρ b T)
  | .tup as,T => (denA C O ρ as T).bind fun us T => if sizeOk us.length then .ok (mkT us) T else .fail
  | .lst live as,T => (denA C O ρ as T).bind fun us T => if sizeOk us.length then mkL O live us T else .fail
  | .ix a b,T => (den C O ρ a T).bind fun x T => (den C O ρ b T).bind fun y T => R.ofO T (ixU O x y T)
  | .slc live a lo hi,T => (den C O ρ a T).bind fun x T => (if isSkip lo then .ok none T else (den C O ρ lo T).bind fun l T => partU l T).bind fun l T =>
      (if isSkip hi then .ok none T else (den C O ρ hi T).bind fun h T => partU h T).bind fun h T => slcU O live x l h T
  | .call live f as ds,T => (denA C O ρ as T).bind fun us T => if live then C.call O f (us ++ ds.map .d) T else callP C O f (us ++ ds.map .d) T
  | .bi live b as,T => (denA C O ρ as T).bind fun us T => biU O live b us T
  | .mt live m o as,T => (den C O ρ o T).bind fun x T => if tyM O T x = some (mtTy m) then (denA C O ρ as T).bind fun us T => mtU O live m x us T else .fail
  | .mcall c f m o as,T => (den C O ρ o T).bind fun x T => if clsOf O T x = some c ∧ (fldU O x m T).isNone = true then (denA C O ρ as T).bind fun us T => C.call O f (x :: us) T else .fail
  | .mk c f as,T => (denA C O ρ as T).bind fun us T => (C.make O f (.ref (O.length + T.length) :: us) (T ++ [.ins c []])).bind fun v T' => if isNone v then .ok (.ref (O.length + T.length)) T' else .fail
  | .fld c o f,T => (den C O ρ o T).bind fun x T => if clsOf O T x = some c then R.ofO T (fldU O x f T) else .fail
  | .comp live elt tg it t own,T => (denI C O ρ it T).bind fun its T0 =>
      (compC (fun u T => match asgT O T tg u (wipeR ρ own) with
        | some ρ' => (den C O ρ' t T).bind fun b T => brB (asB b) ((den C O ρ' elt T).bind fun y T => .ok (some y) T) (.ok none T)
        | none => .fail) (fun T' => sameW O its.t T' its.w) T0.length its.us (T0 ++ [.lstU []])).bind fun _ T' => compE O live T0 T'
  | .dict0,T => .ok (.ref (O.length + T.length)) (T ++ [.dct []])
  | .frz a,T => (den C O ρ a T).bind fun x T => frzU O x T
  | .lockE a e,T => match lockAt O T (den C O ρ a T) with
    | some (i,c,k) => unlR i c (den C O ρ e (T.set i (.dctL k)))
    | none => .fail
  | .frzL x e,T => match frzAt O ρ T x with
    | some (j,ds) => thwR j ds (den C O (ρ.set x (some (.d (.list ds)))) e (T.set j .dead))
    | none => .fail
def denA (C : Cn) (O : Cs) (ρ : Rho) : CA → Cs → R (List U)
  | .nil,T => .ok [] T
  | .cons a r,T => (den C O ρ a T).bind fun u T => (denA C O ρ r T).bind fun us T => .ok (u :: us) T
def denI (C : Cn) (O : Cs) (ρ : Rho) : IT → Cs → R Its
  | .lst a,T => (den C O ρ a T).bind fun x T => match seqL O T x with
    | some us => .ok ⟨us,watch x,T⟩ T
    | none => .fail
  | .tup a,T => (den C O ρ a T).bind fun x T => match seqT x with
    | some us => .ok ⟨us,none,T⟩ T
    | none => .fail
  | .rng1 a,T => (den C O ρ a T).bind fun x T => match x with
    | .d (.int j) => if rngOk 0 j then .ok ⟨rngU 0 j.toNat 1,none,T⟩ T else .fail
    | _ => .fail
  | .rng2 a b,T => (den C O ρ a T).bind fun x T => (den C O ρ b T).bind fun y T => match x,y with
    | .d (.int i),.d (.int j) => if rngOk i j then .ok ⟨rngU i (j - i).toNat 1,none,T⟩ T else .fail
    | _,_ => .fail
  | .rng3 a b c,T => (den C O ρ a T).bind fun x T => (den C O ρ b T).bind fun y T => (den C O ρ c T).bind fun z T => match x,y,z with
    | .d (.int i),.d (.int j),.d (.int (-1)) => if rngOk i j then .ok ⟨rngU i (i - j).toNat (-1),none,T⟩ T else .fail
    | .d (.int i),.d (.int j),.d (.int k) => if decide (0 < k) && decide (k ≤ 1000) && rngOk i j then .ok ⟨rngU i (rngN i j k) k,none,T⟩ T else .fail
    | _,_,_ => .fail
  | .enumL a,T => (den C O ρ a T).bind fun x T => match seqL O T x with
    | some us => .ok ⟨us.zipIdx.map fun p => mkT [.d (.int (p.2 : Nat)),p.1],watch x,T⟩ T
    | none => .fail
  | .enumT a,T => (den C O ρ a T).bind fun x T => match seqT x with
    | some us => .ok ⟨us.zipIdx.map fun p => mkT [.d (.int (p.2 : Nat)),p.1],none,T⟩ T
    | none => .fail
  | .revL a,T => (den C O ρ a T).bind fun x T => match seqL O T x with
    | some us => .ok ⟨us.reverse,watch x,T⟩ T
    | none => .fail
  | .zipL a b,T => (den C O ρ a T).bind fun x T => (den C O ρ b T).bind fun y T => match seqL O T x,seqL O T y,watch x,watch y with
    | some us,some ws,none,none => .ok ⟨(us.zip ws).map fun p => mkT [p.1,p.2],none,T⟩ T
    | _,_,_,_ => match seqT x,seqT y with
      | some us,some ws => .ok ⟨(us.zip ws).map fun p => mkT [p.1,p.2],none,T⟩ T
      | _,_ => .fail
  | .zipTL a b,T => (den C O ρ a T).bind fun x T => (den C O ρ b T).bind fun y T => match seqT x,seqL O T y,watch y with
    | some us,some ws,none => .ok ⟨(us.zip ws).map fun p => mkT [p.1,p.2],none,T⟩ T
    | _,_,_ => .fail
  | .keys a,T => (den C O ρ a T).bind fun x T => match x with
    | .ref i => match (getC O T i).bind dctKs with
      | some kvs => (setC O T i .dead).bind fun _ T' => .ok ⟨kvs.map fun p => .d (keyD p.1),none,T'⟩ T'
      | none => .fail
    | _ => .fail
  | .items a,T => (den C O ρ a T).bind fun x T => match dictOf O T x with
    | some kvs => .ok ⟨kvs.map fun p => mkT [.d (keyD p.1),p.2],watch x,T⟩ T
    | none => .fail
  | .str a,T => (den C O ρ a T).bind fun x T => match x with
    | .d (.str s) => .ok ⟨s.cps.toList.map fun c => .d (.str ⟨#[c]⟩),none,T⟩ T
    | _ => .fail
  | .keysF a,T => (den C O ρ a T).bind fun x T => match x with
    | .ref i => match getC O T i with
      | some (.dctL kvs) => .ok ⟨kvs.map fun p => .d (keyD p.1),none,T⟩ T
      | _ => .fail
    | _ => .fail
  | .itemsF a,T => (den C O ρ a T).bind fun x T => match x with
    | .ref i => match getC O T i with
      | some (.dctL kvs) => .ok ⟨kvs.map fun p => mkT [.d (keyD p.1),p.2],none,T⟩ T
      | _ => .fail
    | _ => .fail
  | .valsF a,T => (den C O ρ a T).bind fun x T => match x with
    | .ref i => match getC O T i with
      | some (.dctL kvs) => .ok ⟨kvs.map fun p => p.2,none,T⟩ T
      | _ => .fail
    | _ => .fail
end
def loopF (body : U → Rho → Cs → F) (ok : Cs → Bool) : List U → Rho → Cs → F
  | [],ρ,T => if ok T then .nx ρ T else .fail
  | u :: us,ρ,T => if ok T then match body u ρ T with
      | .nx ρ' T' | .ct ρ' T' => loopF body ok us ρ' T'
      | .bk ρ' T' => .nx ρ' T'
      | r => r
    else .fail
def loopW (test : Rho → Cs → R U) (body : Rho → Cs → F) : Nat → Rho → Cs → F
  | 0,_,_ => .fail
  | n + 1,ρ,T => F.of ρ (test ρ T) fun b T => match asB b with
    | some false => .nx ρ T
    | some true => match body ρ T with
      | .nx ρ' T' | .ct ρ' T' => loopW test body n ρ' T'
      | .bk ρ' T' => .nx ρ' T'
      | r => r
    | none => .fail
mutual
def denS (C : Cn) (O : Cs) : CS → Rho → Cs → F
  | .asg g e,ρ,T => F.of ρ (den C O ρ e T) fun u T => match asgT O T g u ρ with
    | some ρ' => .nx ρ' T
    | none => .fail
  | .setf c o f e,ρ,T => F.of ρ (den C O ρ e T) fun v T => F.of ρ (den C O ρ o T) fun x T => if clsOf O T x = some c then F.of ρ (setfU O x f v T) fun _ T => .nx ρ T else .fail
  | .seti o i e,ρ,T => F.of ρ (den C O ρ e T) fun v T => F.of ρ (den C O ρ o T) fun x T => F.of ρ (den C O ρ i T) fun y T => F.of ρ (setiU O x y v T) fun _ T => .nx ρ T
  | .augf c o f e,ρ,T => F.of ρ (den C O ρ o T) fun x T => if clsOf O T x = some c then match fldU O x f T with
      | some (.d (.int i)) => F.of ρ (den C O ρ e T) fun y T => match y with
        | .d (.int j) => if clsOf O T x = some c then F.of ρ (setfU O x f (.d (.int (i + j))) T) fun _ T => .nx ρ T else .fail
        | _ => .fail
      | _ => .fail
    else .fail
  | .ex e,ρ,T => F.of ρ (den C O ρ e T) fun _ T => .nx ρ T
  | .ret e,ρ,T => F.of ρ (den C O ρ e T) fun u T => .rt u T
  | .retN,ρ,T => .rt (.d .none) T
  | .brk,ρ,T => .bk ρ T
  | .cnt,ρ,T => .ct ρ T
  | .pass,ρ,T => .nx ρ T
  | .ite t a b,ρ,T => F.of ρ (den C O ρ t T) fun x T => match asB x with
    | some true => denB C O a ρ T
    | some false => denB C O b ρ T
    | none => .fail
  | .for_ g it b,ρ,T => match denI C O ρ it T with
    | .ok its T0 => loopF (fun u ρ T => match asgT O T g u ρ with
        | some ρ' => denB C O b ρ' T
        | none => .fail) (fun T' => sameW O its.t T' its.w) its.us ρ T0
    | _ => .fail
  | .wh n t b,ρ,T => loopW (fun ρ T => den C O ρ t T) (fun ρ T => denB C O b ρ T) n ρ T
  | .bad,_,_ => .fail
  | .lock a s,ρ,T => match lockAt O T (den C O ρ a T) with
    | some (i,c,k) => unlF i c (denS C O s ρ (T.set i (.dctL k)))
    | none => .fail
  | .asg2 i j a b,ρ,T => F.of ρ (den C O ρ a T) fun x T => F.of ρ (den C O ρ b T) fun y T => .nx ((ρ.set i (some x)).set j (some y)) T
  | .setf2 c x f g e,ρ,T => F.of ρ (den C O ρ e T) fun u T => match seqT u with
    | some [a,b] => match ρ[x]? with
      | some (some r) => if clsOf O T r = some c then F.of ρ (setfU O r f a T) fun _ T1 => if clsOf O T1 r = some c then F.of ρ (setfU O r g b T1) fun _ T2 => .nx ρ T2 else .fail else .fail
      | _ => .fail
    | _ => .fail
  | .raise c ns as,ρ,T => match denA C O ρ as T with
    | .ok us T' => match allD us with
      | some ds => if ds.length = ns.length then .exc c (ns.zip ds).reverse ρ T' else .fail
      | none => .fail
    | _ => .fail
  | .xcall g live f as,ρ,T => match denA C O ρ as T with
    | .ok us T1 => match (if live then C.call O f us T1 else callP C O f us T1) with
      | .ok u T2 => match g with
        | some i => .nx (ρ.set i (some u)) T2
        | none => .nx ρ T2
      | .exc c fs T2 => .exc c fs ρ T2
      | .fail => .fail
    | _ => .fail
  | .try_ b ks sl s,ρ,T => match denB C O b ρ T with
    | .exc k fs ρ' T' => if k ∈ ks then match sl with
        | some i => match denB C O s (ρ'.set i (some (.ref (O.length + T'.length)))) (T' ++ [.exn k fs]) with
          | .nx ρ2 T2 => .nx (ρ2.set i none) T2
          | .rt u T2 => .rt u T2
          | _ => .fail
        | none => match denB C O s ρ' T' with
          | .nx ρ2 T2 => .nx ρ2 T2
          | .rt u T2 => .rt u T2
          | _ => .fail
      else .fail
    | r => r
def denB (C : Cn) (O : Cs) : CB → Rho → Cs → F
  | .nil,ρ,T => .nx ρ T
  | .cons s b,ρ,T => match denS C O s ρ T with
    | .nx ρ' T' => denB C O b ρ' T'
    | r => r
end
structure FD where
  np : Nat
  ns : Nat
  body : CB
structure Pg where
  defs : Nat → Option FD
  glob : Nat → Option D
def bodyRun (C : Cn) (O : Cs) (fd : FD) (us : List U) (T : Cs) : R U :=
  if us.length = fd.np then match denB C O fd.body (us.map some ++ List.replicate (fd.ns - us.length) none) T with
    | .nx _ T' => .ok (.d .none) T'
    | .rt u T' => .ok u T'
    | .exc c fs _ T' => .exc c fs T'
    | _ => .fail
  else .fail
def run (G : Pg) : Nat → Cs → Nat → List U → Cs → R U
  | 0,_,_,_,_ => .fail
  | n + 1,O,f,us,T => match G.defs f with
    | some fd => bodyRun ⟨run G n,run G n,G.glob⟩ O fd us T
    | none => .fail
end Y
namespace Y
open PySem L2
def Ex (H H' : Hp) : Prop := ∀ a o,H a = some o → H' a = some o
theorem Ex.refl (H : Hp) : Ex H H := fun _ _ h => h
theorem Ex.trans {H H1 H2 : Hp} (a : Ex H H1) (b : Ex H1 H2) : Ex H H2 := fun x o h => b x o (a x o h)
theorem Ex.new {H : Hp} {p : Addr} {o : HO} (h : H p = none) : Ex H (upd H p o) := fun a u e => by
  rw [upd_ne (ne_of_none e h)]
  exact e
theorem Ex.none {H H' : Hp} (e : Ex H H') {p : Addr} (h : H' p = Option.none) : H p = Option.none := by
  cases h1 : H p with
  | none => rfl
  | some o =>
    rw [e p o h1] at h
    cases h
theorem Ex.mut {H H' : Hp} {p : Addr} {o : HO} (e : Ex H H') (h : H p = Option.none) : Ex H (upd H' p o) := fun a u ha => by
  rw [upd_ne (ne_of_none ha h)]
  exact e a u ha
theorem Ex.both {H H' : Hp} {p : Addr} {o : HO} (e : Ex H H') : Ex (upd H p o) (upd H' p o) := fun a u ha => by
  by_cases h : a = p
  · subst h
    rw [upd_same] at ha ⊢
    exact ha
  · rw [upd_ne h] at ha ⊢
    exact e a u ha
theorem Ex.into {H H' : Hp} {p : Addr} {o : HO} (e : Ex H H') (h : H' p = some o) : Ex (upd H p o) H' := fun a u ha => by
  by_cases q : a = p
  · subst q
    rw [upd_same] at ha
    rw [h]
    exact ha
  · rw [upd_ne q] at ha
    exact e a u ha
theorem Ex.rd {H H' : Hp} {a : Addr} {u : HO} (e : Ex H H') (h : Rd H a u) : Rd H' a u := by
  rcases h with h | ⟨o,h⟩
  · exact .inl (e a _ h)
  · exact .inr ⟨o,e a _ h⟩
mutual
inductive Rp (G : Hp) : V → D → Prop
  | non : Rp G .non .none
  | bl (b : Bool) : Rp G (.bl b) (.bool b)
  | int (i : Int) : Rp G (.int i) (.int i)
  | str (x : Str) : Rp G (.str x) (.str x)
  | lst {a : Addr} {vs : List V} {ds : List D} : Rd G a (.lst vs) → Rps G vs ds → Rp G (.ref a) (.list ds)
  | tup {a : Addr} {vs : List V} {ds : List D} : G a = some (.tup vs) → Rps G vs ds → Rp G (.ref a) (.tuple ds)
  | ntx {a : Addr} {o : Obj} {kvs : List (D × D)} {zs : List Str} : ntOf (.dict kvs) = some zs → G a = some (.frz o (.tup (zs.map V.str))) → o.dict = none → Rp G (.ref a) (.dict kvs)
inductive Rps (G : Hp) : List V → List D → Prop
  | nil : Rps G [] []
  | cons {v : V} {vs : List V} {d : D} {ds : List D} : Rp G v d → Rps G vs ds → Rps G (v :: vs) (d :: ds)
end
mutual
inductive RpU (G : Hp) (φ : List Addr) : V → U → Prop
  | d {v : V} {x : D} : Rp G v x → RpU G φ v (.d x)
  | ref {i : Nat} {a : Addr} : φ[i]? = some a → RpU G φ (.ref a) (.ref i)
  | tup {a : Addr} {vs : List V} {us : List U} : G a = some (.tup vs) → RpUs G φ vs us → RpU G φ (.ref a) (.tup us)
inductive RpUs (G : Hp) (φ : List Addr) : List V → List U → Prop
  | nil : RpUs G φ [] []
  | cons {v : V} {vs : List V} {u : U} {us : List U} : RpU G φ v u → RpUs G φ vs us → RpUs G φ (v :: vs) (u :: us)
end
section
variable {G G' H : Hp} {φ φ' : List Addr} {K : PySem.W.Frag}
mutual
theorem Rp.mono (e : Ex G G') : ∀ (d : D) (v : V),Rp G v d → Rp G' v d
  | .none,_,h => by cases h; exact .non
  | .bool b,_,h => by cases h; exact .bl b
  | .int i,_,h => by cases h; exact .int i
  | .str x,_,h => by cases h; exact .str x
  | .list ds,_,h => by
    cases h with
    | lst h1 h2 => exact .lst (e.rd h1) (Rps.mono e ds _ h2)
  | .tuple ds,_,h => by
    cases h with
    | tup h1 h2 => exact .tup (e _ _ h1) (Rps.mono e ds _ h2)
  | .dict kvs,_,h => by
    cases h with
    | ntx h1 h2 h3 => exact .ntx h1 (e _ _ h2) h3
theorem Rps.mono (e : Ex G G') : ∀ (ds : List D) (vs : List V),Rps G vs ds → Rps G' vs ds
  | [],_,h => by cases h; exact .nil
  | d :: ds,_,h => by
    cases h with
    | cons h1 h2 => exact .cons (Rp.mono e d _ h1) (Rps.mono e ds _ h2)
end
mutual
theorem Rp.dp (e : Ex G H) : ∀ (d : D) (v : V),Rp G v d → d.canLay0 = true → Dp K H v d
  | .none,_,h,_ => by cases h; exact .non
  | .bool b,_,h,_ => by cases h; exact .bl b
  | .int i,_,h,_ => by cases h; exact .int i
  | .str x,_,h,_ => by cases h; exact .str x
  | .list ds,_,h,c => by
    cases h with
    | lst h1 h2 => exact .lst (.inl (e.rd h1)) (Rps.dp e ds _ h2 (by simpa [PyData.canLay0] using c))
  | .tuple ds,_,h,c => by
    cases h with
    | tup h1 h2 => exact .tup (.inl (.inl (e _ _ h1))) (Rps.dp e ds _ h2 (by simpa [PyData.canLay0] using c))
  | .dict _,_,h,c => by simp [PyData.canLay0] at c
theorem Rps.dp (e : Ex G H) : ∀ (ds : List D) (vs : List V),Rps G vs ds → PyData.canLayAll0 ds = true → DpAll K H vs ds
  | [],_,h,_ => by cases h; exact .nil
  | d :: ds,_,h,c => by
    have c : d.canLay0 = true ∧ PyData.canLayAll0 ds = true := by simpa [PyData.canLayAll0] using c
    cases h with
    | cons h1 h2 => exact .cons (Rp.dp e d _ h1 c.1) (Rps.dp e ds _ h2 c.2)
end
mutual
theorem RpU.mono (e : Ex G G') (p : ∀ (i : Nat) (a : Addr),φ[i]? = some a → φ'[i]? = some a) : ∀ (u : U) (v : V),RpU G φ v u → RpU G' φ' v u
  | .d x,_,h => by cases h with | d h => exact .d (Rp.mono e x _ h)
  | .ref i,_,h => by cases h with | ref h => exact .ref (p _ _ h)
  | .tup us,_,h => by cases h with | tup h1 h2 => exact .tup (e _ _ h1) (RpUs.mono e p us _ h2)
theorem RpUs.mono (e : Ex G G') (p : ∀ (i : Nat) (a : Addr),φ[i]? = some a → φ'[i]? = some a) : ∀ (us : List U) (vs : List V),RpUs G φ vs us → RpUs G' φ' vs us
  | [],_,h => by cases h; exact .nil
  | u :: us,_,h => by
    cases h with
    | cons h1 h2 => exact .cons (RpU.mono e p u _ h1) (RpUs.mono e p us _ h2)
end
theorem sub_get (p : ∀ (i : Nat) (a : Addr),φ[i]? = some a → φ'[i]? = some a) {i : Nat} {a b : Addr} (h : φ[i]? = some a) (h' : φ'[i]? = some b) : φ[i]? = some b := by
  have := p i a h
  rw [h'] at this
  cases this
  exact h
mutual
theorem RpU.back (p : ∀ (i : Nat) (a : Addr),φ[i]? = some a → φ'[i]? = some a) : ∀ (u : U) (v v' : V),RpU G φ v u → RpU G' φ' v' u → RpU G' φ v' u
  | .d x,_,_,_,h => by cases h with | d h => exact .d h
  | .ref i,_,_,h0,h => by
    cases h0 with
    | ref h0 => cases h with | ref h => exact .ref (sub_get p h0 h)
  | .tup us,_,_,h0,h => by
    cases h0 with
    | tup _ g2 => cases h with | tup h1 h2 => exact .tup h1 (RpUs.back p us _ _ g2 h2)
theorem RpUs.back (p : ∀ (i : Nat) (a : Addr),φ[i]? = some a → φ'[i]? = some a) : ∀ (us : List U) (vs vs' : List V),RpUs G φ vs us → RpUs G' φ' vs' us → RpUs G' φ vs' us
  | [],_,_,_,h => by cases h; exact .nil
  | u :: us,_,_,h0,h => by
    cases h0 with
    | cons g1 g2 => cases h with | cons h1 h2 => exact .cons (RpU.back p u _ _ g1 h1) (RpUs.back p us _ _ g2 h2)
end
theorem Rps.length : ∀ {ds : List D} {vs : List V},Rps G vs ds → vs.length = ds.length
  | [],_,h => by cases h; rfl
  | d :: ds,_,h => by cases h with | cons _ h2 => simp [Rps.length h2]
theorem RpUs.length : ∀ {us : List U} {vs : List V},RpUs G φ vs us → vs.length = us.length
  | [],_,h => by cases h; rfl
  | d :: ds,_,h => by cases h with | cons _ h2 => simp [RpUs.length h2]
theorem Rps.get : ∀ {ds : List D} {vs : List V} {i : Nat} {x : D},Rps G vs ds → ds[i]? = some x → ∃ v,vs[i]? = some v ∧ Rp G v x
  | [],_,_,_,_,e => by simp at e
  | d :: ds,_,0,x,h,e => by cases h with | cons h1 _ => simp at e; subst e; exact ⟨_,rfl,h1⟩
  | d :: ds,_,i + 1,x,h,e => by
    cases h with
    | cons _ h2 =>
      obtain ⟨v,q1,q2⟩ := Rps.get (i := i) h2 (by simpa using e)
      exact ⟨v,by simpa using q1,q2⟩
theorem RpUs.get : ∀ {us : List U} {vs : List V} {i : Nat} {x : U},RpUs G φ vs us → us[i]? = some x → ∃ v,vs[i]? = some v ∧ RpU G φ v x
  | [],_,_,_,_,e => by simp at e
  | d :: ds,_,0,x,h,e => by cases h with | cons h1 _ => simp at e; subst e; exact ⟨_,rfl,h1⟩
  | d :: ds,_,i + 1,x,h,e => by
    cases h with
    | cons _ h2 =>
      obtain ⟨v,q1,q2⟩ := RpUs.get (i := i) h2 (by simpa using e)
      exact ⟨v,by simpa using q1,q2⟩
theorem RpUs.append : ∀ {us ws : List U} {vs zs : List V},RpUs G φ vs us → RpUs G φ zs ws → RpUs G φ (vs ++ zs) (us ++ ws)
  | [],_,_,_,h,q => by cases h; exact q
  | d :: ds,_,_,_,h,q => by cases h with | cons h1 h2 => exact .cons h1 (RpUs.append h2 q)
theorem RpUs.take : ∀ {us : List U} {vs : List V} (n : Nat),RpUs G φ vs us → RpUs G φ (vs.take n) (us.take n)
  | _,_,0,_ => .nil
  | [],_,_ + 1,h => by cases h; exact .nil
  | d :: ds,_,n + 1,h => by cases h with | cons h1 h2 => exact .cons h1 (RpUs.take n h2)
theorem RpUs.drop : ∀ {us : List U} {vs : List V} (n : Nat),RpUs G φ vs us → RpUs G φ (vs.drop n) (us.drop n)
  | _,_,0,h => h
  | [],_,_ + 1,h => by cases h; exact .nil
  | d :: ds,_,n + 1,h => by cases h with | cons h1 h2 => exact RpUs.drop n h2
theorem RpUs.set {v : V} {u : U} (h : RpU G φ v u) : ∀ {us : List U} {vs : List V} (n : Nat),RpUs G φ vs us → RpUs G φ (vs.set n v) (us.set n u)
  | [],_,_,q => by cases q; exact .nil
  | d :: ds,_,0,q => by cases q with | cons _ h2 => exact .cons h h2
  | d :: ds,_,n + 1,q => by cases q with | cons h1 h2 => exact .cons h1 (RpUs.set h n h2)
theorem RpUs.reverse : ∀ {us : List U} {vs : List V},RpUs G φ vs us → RpUs G φ vs.reverse us.reverse
  | [],_,h => by cases h; exact .nil
  | d :: ds,_,h => by
    cases h with
    | cons h1 h2 =>
      simp only [List.reverse_cons]
      exact (RpUs.reverse h2).append (.cons h1 .nil)
theorem RpUs.dropLast {us : List U} {vs : List V} (h : RpUs G φ vs us) : RpUs G φ vs.dropLast us.dropLast := by
  rw [List.dropLast_eq_take,List.dropLast_eq_take,h.length]
  exact h.take _
theorem RpUs.eraseIdx : ∀ {us : List U} {vs : List V} (n : Nat),RpUs G φ vs us → RpUs G φ (vs.eraseIdx n) (us.eraseIdx n)
  | [],_,_,q => by cases q; exact .nil
  | d :: ds,_,0,q => by cases q with | cons _ h2 => exact h2
  | d :: ds,_,n + 1,q => by cases q with | cons h1 h2 => exact .cons h1 (RpUs.eraseIdx n h2)
theorem RpUs.replicate {us : List U} {vs : List V} (h : RpUs G φ vs us) : ∀ n : Nat,RpUs G φ (List.replicate n vs).flatten (List.replicate n us).flatten
  | 0 => .nil
  | n + 1 => by
    simp only [List.replicate_succ,List.flatten_cons]
    exact h.append (RpUs.replicate h n)
theorem Rps.up : ∀ {ds : List D} {vs : List V},Rps G vs ds → RpUs G φ vs (ds.map .d)
  | [],_,h => by cases h; exact .nil
  | d :: ds,_,h => by cases h with | cons h1 h2 => exact .cons (.d h1) (Rps.up h2)
theorem rps_str (zs : List Str) : Rps G (zs.map V.str) (zs.map PyData.str) := by
  induction zs with
  | nil => exact .nil
  | cons z zs ih => exact .cons (.str z) ih
theorem RpUs.down : ∀ {us : List U} {vs : List V} {ds : List D},RpUs G φ vs us → allD us = some ds → Rps G vs ds
  | [],_,ds,h,e => by cases h; simp [allD] at e; subst e; exact .nil
  | .d x :: us,_,ds,h,e => by
    cases h with
    | cons h1 h2 =>
      cases h1 with
      | d h1 =>
        simp only [allD,Option.map_eq_some_iff] at e
        obtain ⟨r,e1,rfl⟩ := e
        exact .cons h1 (RpUs.down h2 e1)
  | .ref _ :: us,_,ds,h,e => by simp [allD] at e
  | .tup _ :: us,_,ds,h,e => by simp [allD] at e
theorem RpUs.downD {ds : List D} {vs : List V} (h : RpUs G φ vs (ds.map .d)) : Rps G vs ds := by
  refine h.down ?_
  clear h
  induction ds with
  | nil => rfl
  | cons d ds ih => simp [allD,ih]
end
@[simp] theorem allD_map (ds : List D) : allD (ds.map .d) = some ds := by
  induction ds with
  | nil => rfl
  | cons d ds ih => simp [allD,ih]
@[simp] theorem allD_map' {α : Type} (f : α → D) (xs : List α) : allD (xs.map fun x => .d (f x)) = some (xs.map f) := by
  induction xs with
  | nil => rfl
  | cons d ds ih => simp [allD,ih]
theorem allD_of : ∀ {us : List U} {ds : List D},allD us = some ds → us = ds.map .d
  | [],ds,e => by simp [allD] at e; subst e; rfl
  | .d x :: us,ds,e => by
    simp only [allD,Option.map_eq_some_iff] at e
    obtain ⟨r,e1,rfl⟩ := e
    rw [allD_of e1] <;> rfl
  | .ref _ :: us,ds,e => by simp [allD] at e
  | .tup _ :: us,ds,e => by simp [allD] at e
inductive RpK (G : Hp) (φ : List Addr) : List (List Key × V) → List (Ky × U) → Prop
  | nil : RpK G φ [] []
  | cons {k : Ky} {v : V} {u : U} {ws kvs} : RpU G φ v u → RpK G φ ws kvs → RpK G φ ((k,v) :: ws) ((k,u) :: kvs)
inductive RpF (G : Hp) (φ : List Addr) : List (Str × V) → List (Str × U) → Prop
  | nil : RpF G φ [] []
  | cons {k : Str} {v : V} {u : U} {ws fs} : RpU G φ v u → RpF G φ ws fs → RpF G φ ((k,v) :: ws) ((k,u) :: fs)
def xO (a C : Addr) (d : Option Addr) : HO := .ext fun h => ∃ oe,h.get? a = some oe ∧ oe.cls = .ref C ∧ oe.dict = d ∧ ∃ vs,oe.data = .fields vs
def XF (G : Hp) (d : Option Addr) (fs : List (Str × D)) : Prop := (fs = [] ∧ d = none) ∨ ∃ dx ws,d = some dx ∧ G dx = some (.xd ws) ∧ RpF G [] ws (fs.map fun p => (p.1,.d p.2))
theorem RpF.mono0 {G G' : Hp} (e : Ex G G') : ∀ {ws : List (Str × V)} {fs : List (Str × U)},RpF G [] ws fs → RpF G' [] ws fs
  | _,_,.nil => .nil
  | _,_,.cons h t => .cons (RpU.mono e (fun _ _ h => h) _ _ h) (RpF.mono0 e t)
theorem XF.mono {G G' : Hp} {d : Option Addr} {fs : List (Str × D)} (e : Ex G G') (h : XF G d fs) : XF G' d fs := by
  rcases h with h | ⟨dx,ws,h1,h2,h3⟩
  · exact .inl h
  · exact .inr ⟨dx,ws,h1,e _ _ h2,h3.mono0 e⟩
def CellOk (ca : Nat → Addr) (G : Hp) (φ : List Addr) (H : Hp) (a : Addr) : Cell → Prop
  | .lst ds => ∃ vs,H a = some (.lst vs) ∧ Rps G vs ds
  | .lstU us => ∃ vs,H a = some (.lst vs) ∧ RpUs G φ vs us
  | .dct kvs => ∃ ws,H a = some (.dT ws) ∧ RpK G φ ws (kvs.map fun p => (p.1,.d p.2))
  | .dctU kvs => ∃ ws,H a = some (.dT ws) ∧ RpK G φ ws kvs
  | .dctL kvs => ∃ od ws,G a = some (.frz od (.dT ws)) ∧ RpK G φ ws kvs
  | .ins c fs => ∃ dx ws,H a = some (.ins (ca c) dx ws) ∧ RpF G φ ws fs
  | .dctS kvs => H a = some (.dK (kvs.map fun p => (Sum.inr p.1,V.int p.2)))
  | .exn c fs => ∃ d,G a = some (xO a (ca c) d) ∧ XF G d fs
  | .dead => True
def live : Cell → Prop
  | .dead => False
  | .exn _ _ => False
  | .dctL _ => False
  | _ => True
structure Sd (ca : Nat → Addr) (φ : List Addr) (G H : Hp) (S : Cs) : Prop where
  len : φ.length = S.length
  nd : φ.Nodup
  ex : Ex G H
  off : ∀ (i : Nat) (a : Addr) (c : Cell),φ[i]? = some a → S[i]? = some c → live c → G a = none
  kn : ∀ (i : Nat) (a : Addr),φ[i]? = some a → ∃ o,H a = some o
  cell : ∀ (i : Nat) (a : Addr) (c : Cell),φ[i]? = some a → S[i]? = some c → CellOk ca G φ H a c
def Lo (G : Hp) (φ : List Addr) (σ : St) (ρ : Rho) : Prop := ∀ (i : Nat) (u : U),ρ[i]? = some (some u) → ∃ v,σ[i]? = some (some v) ∧ RpU G φ v u
structure Fut (φ : List Addr) (G : Hp) (φ' : List Addr) (G' : Hp) : Prop where
  pre : ∀ (i : Nat) (a : Addr),φ[i]? = some a → φ'[i]? = some a
  ex : Ex G G'
theorem Fut.refl {φ : List Addr} {G : Hp} : Fut φ G φ G := ⟨fun _ _ h => h,Ex.refl G⟩
theorem Fut.trans {φ φ1 φ2 : List Addr} {G G1 G2 : Hp} (a : Fut φ G φ1 G1) (b : Fut φ1 G1 φ2 G2) : Fut φ G φ2 G2 := ⟨fun i x h => b.pre i x (a.pre i x h),a.ex.trans b.ex⟩
theorem Fut.u {φ φ1 : List Addr} {G G1 : Hp} (a : Fut φ G φ1 G1) {v : V} {u : U} (h : RpU G φ v u) : RpU G1 φ1 v u := RpU.mono a.ex a.pre u v h
theorem Fut.us {φ φ1 : List Addr} {G G1 : Hp} (a : Fut φ G φ1 G1) {v : List V} {u : List U} (h : RpUs G φ v u) : RpUs G1 φ1 v u := RpUs.mono a.ex a.pre u v h
theorem Fut.lo {φ φ1 : List Addr} {G G1 : Hp} (a : Fut φ G φ1 G1) {σ : St} {ρ : Rho} (h : Lo G φ σ ρ) : Lo G1 φ1 σ ρ := fun i u e =>
  let ⟨v,h1,h2⟩ := h i u e
  ⟨v,h1,a.u h2⟩
theorem Fut.k {φ φ1 : List Addr} {G G1 : Hp} (a : Fut φ G φ1 G1) : ∀ {ws : List (List Key × V)} {kvs : List (Ky × U)},RpK G φ ws kvs → RpK G1 φ1 ws kvs
  | _,_,.nil => .nil
  | _,_,.cons h t => .cons (a.u h) (Fut.k a t)
theorem Fut.f {φ φ1 : List Addr} {G G1 : Hp} (a : Fut φ G φ1 G1) : ∀ {ws : List (Str × V)} {kvs : List (Str × U)},RpF G φ ws kvs → RpF G1 φ1 ws kvs
  | _,_,.nil => .nil
  | _,_,.cons h t => .cons (a.u h) (Fut.f a t)
theorem RpK.back {φ φ' : List Addr} {G G' : Hp} (p : ∀ (i : Nat) (a : Addr),φ[i]? = some a → φ'[i]? = some a) : ∀ {ws ws' : List (List Key × V)} {kvs : List (Ky × U)},RpK G φ ws kvs → RpK G' φ' ws' kvs → RpK G' φ ws' kvs
  | _,_,_,.nil,.nil => .nil
  | _,_,_,.cons g t,.cons h q => .cons (RpU.back p _ _ _ g h) (RpK.back p t q)
theorem RpF.back {φ φ' : List Addr} {G G' : Hp} (p : ∀ (i : Nat) (a : Addr),φ[i]? = some a → φ'[i]? = some a) : ∀ {ws ws' : List (Str × V)} {kvs : List (Str × U)},RpF G φ ws kvs → RpF G' φ' ws' kvs → RpF G' φ ws' kvs
  | _,_,_,.nil,.nil => .nil
  | _,_,_,.cons g t,.cons h q => .cons (RpU.back p _ _ _ g h) (RpF.back p t q)
section
variable {ca : Nat → Addr} {φ φ' : List Addr} {G G' H H' : Hp} {S : Cs} {a : Addr} {c : Cell}
theorem CellOk.mono (f : Fut φ G φ' G') (e : H' a = H a) (h : CellOk ca G φ H a c) : CellOk ca G' φ' H' a c := by
  cases c with
  | lst ds => obtain ⟨vs,h1,h2⟩ := h; exact ⟨vs,e.trans h1,Rps.mono f.ex _ _ h2⟩
  | lstU us => obtain ⟨vs,h1,h2⟩ := h; exact ⟨vs,e.trans h1,f.us h2⟩
  | dct kvs => obtain ⟨vs,h1,h2⟩ := h; exact ⟨vs,e.trans h1,f.k h2⟩
  | dctU kvs => obtain ⟨vs,h1,h2⟩ := h; exact ⟨vs,e.trans h1,f.k h2⟩
  | dctL kvs => obtain ⟨od,vs,h1,h2⟩ := h; exact ⟨od,vs,f.ex _ _ h1,f.k h2⟩
  | ins k fs => obtain ⟨dx,vs,h1,h2⟩ := h; exact ⟨dx,vs,e.trans h1,f.f h2⟩
  | exn k fs => obtain ⟨d,h1,h2⟩ := h; exact ⟨d,f.ex _ _ h1,h2.mono f.ex⟩
  | dctS k => exact e.trans h
  | dead => trivial
theorem CellOk.back (p : ∀ (i : Nat) (a : Addr),φ[i]? = some a → φ'[i]? = some a) (g : CellOk ca G φ H a c) (h : CellOk ca G' φ' H' a c) : CellOk ca G' φ H' a c := by
  cases c with
  | lst ds => exact h
  | lstU us => obtain ⟨_,_,g2⟩ := g; obtain ⟨vs,h1,h2⟩ := h; exact ⟨vs,h1,RpUs.back p _ _ _ g2 h2⟩
  | dct kvs => obtain ⟨_,_,g2⟩ := g; obtain ⟨vs,h1,h2⟩ := h; exact ⟨vs,h1,RpK.back p g2 h2⟩
  | dctU kvs => obtain ⟨_,_,g2⟩ := g; obtain ⟨vs,h1,h2⟩ := h; exact ⟨vs,h1,RpK.back p g2 h2⟩
  | dctL kvs => obtain ⟨_,_,_,g2⟩ := g; obtain ⟨od,vs,h1,h2⟩ := h; exact ⟨od,vs,h1,RpK.back p g2 h2⟩
  | ins k fs => obtain ⟨_,_,_,g2⟩ := g; obtain ⟨dx,vs,h1,h2⟩ := h; exact ⟨dx,vs,h1,RpF.back p g2 h2⟩
  | exn k fs => exact h
  | dctS k => exact h
  | dead => trivial
theorem nd_ne (nd : φ.Nodup) {i j : Nat} {a b : Addr} (hi : φ[i]? = some a) (hj : φ[j]? = some b) (h : i ≠ j) : a ≠ b := by
  intro e
  subst e
  obtain ⟨li,ei⟩ := List.getElem?_eq_some_iff.mp hi
  obtain ⟨lj,ej⟩ := List.getElem?_eq_some_iff.mp hj
  exact h ((List.getElem?_inj li nd).mp (hi.trans hj.symm))
theorem Sd.know (s : Sd ca φ G H S) {p : Addr} {o : HO} (np : H p = none) : Sd ca φ (upd G p o) (upd H p o) S := by
  have ne : ∀ (i : Nat) (a : Addr),φ[i]? = some a → a ≠ p := fun i a h => by
    obtain ⟨o',h'⟩ := s.kn i a h
    exact ne_of_none h' np
  refine ⟨s.len,s.nd,s.ex.both,fun i a c h1 h2 h3 => ?_,fun i a h => ?_,fun i a c h1 h2 => ?_⟩
  · rw [upd_ne (ne i a h1)]; exact s.off i a c h1 h2 h3
  · rw [upd_ne (ne i a h)]; exact s.kn i a h
  · exact (s.cell i a c h1 h2).mono ⟨fun _ _ h => h,Ex.new (s.ex.none np)⟩ (upd_ne (ne i a h1))
theorem Sd.knowF (s : Sd ca φ G H S) {p : Addr} {o : HO} (np : H p = none) : Fut φ G φ (upd G p o) := ⟨fun _ _ h => h,Ex.new (s.ex.none np)⟩
theorem get_append_last {α : Type} {xs : List α} {x y : α} {i : Nat} (h : (xs ++ [x])[i]? = some y) : xs[i]? = some y ∨ i = xs.length ∧ y = x := by
  by_cases hi : i < xs.length
  · rw [List.getElem?_append_left hi] at h; exact .inl h
  · rw [List.getElem?_append_right (by omega)] at h
    have : i - xs.length = 0 := by
      cases q : i - xs.length with
      | zero => rfl
      | succ n => rw [q] at h; simp at h
    rw [this] at h
    simp at h
    exact .inr ⟨by omega,h.symm⟩
theorem pre_append (φ ψ : List Addr) : ∀ (i : Nat) (a : Addr),φ[i]? = some a → (φ ++ ψ)[i]? = some a := fun i a h => by
  rw [List.getElem?_append_left (List.getElem?_eq_some_iff.mp h).1]
  exact h
theorem Sd.cellNew (s : Sd ca φ G H S) {p : Addr} {o : HO} {c : Cell} (np : H p = none) (hc : CellOk ca G (φ ++ [p]) (upd H p o) p c) : Sd ca (φ ++ [p]) G (upd H p o) (S ++ [c]) := by
  have ne : ∀ (i : Nat) (a : Addr),φ[i]? = some a → a ≠ p := fun i a h => by
    obtain ⟨o',h'⟩ := s.kn i a h
    exact ne_of_none h' np
  refine ⟨by simp [s.len], ?_,s.ex.trans (Ex.new np),fun i a c h1 h2 h3 => ?_,fun i a h => ?_,fun i a c h1 h2 => ?_⟩
  · rw [List.nodup_append]
    refine ⟨s.nd,by simp,fun a ha b hb => ?_⟩
    simp at hb
    subst hb
    obtain ⟨i,hi⟩ := List.getElem?_of_mem ha
    exact ne i a hi
  · rcases get_append_last h1 with h1 | ⟨e,rfl⟩
    · rcases get_append_last h2 with h2 | ⟨e,rfl⟩
      · exact s.off i a c h1 h2 h3
      · have := (List.getElem?_eq_some_iff.mp h1).1; rw [s.len] at this; omega
    · exact s.ex.none np
  · rcases get_append_last h with h1 | ⟨e,rfl⟩
    · rw [upd_ne (ne i a h1)]; exact s.kn i a h1
    · exact ⟨_,upd_same⟩
  · rcases get_append_last h1 with h1 | ⟨e,rfl⟩
    · rcases get_append_last h2 with h2 | ⟨e,rfl⟩
      · exact (s.cell i a c h1 h2).mono ⟨pre_append φ [p],Ex.refl G⟩ (upd_ne (ne i a h1))
      · have := (List.getElem?_eq_some_iff.mp h1).1; rw [s.len] at this; omega
    · rcases get_append_last h2 with h2 | ⟨e2,rfl⟩
      · have := (List.getElem?_eq_some_iff.mp h2).1; rw [← s.len] at this; omega
      · exact hc
theorem Sd.newF {p : Addr} : Fut φ G (φ ++ [p]) G := ⟨pre_append φ [p],Ex.refl G⟩
theorem Sd.write (s : Sd ca φ G H S) {i : Nat} {a : Addr} {c c' : Cell} {o : HO} (hi : φ[i]? = some a) (hc : S[i]? = some c) (hl : live c) (h : CellOk ca G φ (upd H a o) a c') : Sd ca φ G (upd H a o) (S.set i c') := by
  have ga := s.off i a c hi hc hl
  have lt := (List.getElem?_eq_some_iff.mp hc).1
  refine ⟨by simp [s.len],s.nd,s.ex.mut ga,fun j b d h1 h2 h3 => ?_,fun j b h1 => ?_,fun j b d h1 h2 => ?_⟩
  · by_cases e : j = i
    · subst e; rw [hi] at h1; cases h1; exact ga
    · rw [List.getElem?_set_ne (Ne.symm e)] at h2; exact s.off j b d h1 h2 h3
  · by_cases e : b = a
    · subst e; exact ⟨_,upd_same⟩
    · rw [upd_ne e]; exact s.kn j b h1
  · by_cases e : j = i
    · subst e
      rw [hi] at h1; cases h1
      rw [List.getElem?_set_self lt] at h2; cases h2
      exact h
    · rw [List.getElem?_set_ne (Ne.symm e)] at h2
      exact (s.cell j b d h1 h2).mono Fut.refl (upd_ne (nd_ne s.nd h1 hi e))
theorem Sd.freeze (s : Sd ca φ G H S) {i : Nat} {a : Addr} {c : Cell} {o : HO} (hi : φ[i]? = some a) (hc : S[i]? = some c) (hl : live c) (h : H a = some o) : Sd ca φ (upd G a o) H (S.set i .dead) := by
  have ga := s.off i a c hi hc hl
  have lt := (List.getElem?_eq_some_iff.mp hc).1
  refine ⟨by simp [s.len],s.nd,s.ex.into h,fun j b d h1 h2 h3 => ?_,s.kn,fun j b d h1 h2 => ?_⟩
  · by_cases e : j = i
    · subst e; rw [List.getElem?_set_self lt] at h2; cases h2; exact h3.elim
    · rw [List.getElem?_set_ne (Ne.symm e)] at h2
      rw [upd_ne (nd_ne s.nd h1 hi e)]
      exact s.off j b d h1 h2 h3
  · by_cases e : j = i
    · subst e; rw [List.getElem?_set_self lt] at h2; cases h2; trivial
    · rw [List.getElem?_set_ne (Ne.symm e)] at h2
      exact (s.cell j b d h1 h2).mono ⟨fun _ _ h => h,Ex.new ga⟩ rfl
theorem Sd.freezeF (s : Sd ca φ G H S) {i : Nat} {a : Addr} {c : Cell} {o : HO} (hi : φ[i]? = some a) (hc : S[i]? = some c) (hl : live c) : Fut φ G φ (upd G a o) := ⟨fun _ _ h => h,Ex.new (s.off i a c hi hc hl)⟩
theorem Sd.drop {S' : Cs} (s : Sd ca φ G H S) (f : Fut φ G φ' G') (s' : Sd ca φ' G' H' (S ++ S')) : Sd ca φ G' H' S := by
  refine ⟨s.len,s.nd,s'.ex,fun i a c h1 h2 h3 => ?_,fun i a h => s'.kn i a (f.pre i a h),fun i a c h1 h2 => ?_⟩
  · exact s'.off i a c (f.pre i a h1) (by rw [List.getElem?_append_left (List.getElem?_eq_some_iff.mp h2).1]; exact h2) h3
  · exact (s.cell i a c h1 h2).back f.pre (s'.cell i a c (f.pre i a h1) (by rw [List.getElem?_append_left (List.getElem?_eq_some_iff.mp h2).1]; exact h2))
theorem getC_eq (O T : Cs) (i : Nat) : getC O T i = (O ++ T)[i]? := by
  unfold getC
  by_cases h : i < O.length
  · rw [if_pos h,List.getElem?_append_left h]
  · rw [if_neg h,List.getElem?_append_right (by omega)]
theorem set_own (O T : Cs) (i : Nat) (c : Cell) (h : O.length ≤ i) : (O ++ T).set i c = O ++ T.set (i - O.length) c := by
  rw [List.set_append_right (h := h)]
end
end Y
namespace Y
open PySem PySem.Spec L2
section
variable {ca : Nat → Addr} {α β γ : Type} {φ φ' : List Addr} {G G' H : Hp} {O : Cs}
def Pc (ca : Nat → Addr) (rel : Hp → List Addr → β → α → Prop) (φ : List Addr) (G : Hp) (O : Cs) (r : R α) (Q : β → Hp → Prop) : Prop :=
  match r with
  | .ok a T => ∀ (b : β) (φ' : List Addr) (G' H' : Hp),Fut φ G φ' G' → Sd ca φ' G' H' (O ++ T) → rel G' φ' b a → Q b H'
  | .exc _ _ _ => False
  | .fail => False
def rU (G : Hp) (φ : List Addr) (v : V) (u : U) : Prop := RpU G φ v u
def rUs (G : Hp) (φ : List Addr) (v : List V) (u : List U) : Prop := RpUs G φ v u
def rB (_ : Hp) (_ : List Addr) (b : Bool) (u : Bool) : Prop := b = u
def tst (r : R U) : R Bool := r.bind fun u T => R.ofO T (asB u)
theorem Pc.later {rel : Hp → List Addr → β → α → Prop} {r : R α} {Q : β → Hp → Prop} (f : Fut φ G φ' G') (h : Pc ca rel φ G O r Q) : Pc ca rel φ' G' O r Q := by
  cases r with
  | ok a T => exact fun b φ2 G2 H2 f2 s r => h b φ2 G2 H2 (f.trans f2) s r
  | exc => exact h
  | fail => exact h
theorem Pc.imp {rel : Hp → List Addr → β → α → Prop} {r : R α} {Q Q' : β → Hp → Prop} (h : Pc ca rel φ G O r Q) (k : ∀ b H',Q b H' → Q' b H') : Pc ca rel φ G O r Q' := by
  cases r with
  | ok a T => exact fun b φ2 G2 H2 f2 s r => k _ _ (h b φ2 G2 H2 f2 s r)
  | exc => exact h
  | fail => exact h
structure Mid (ca : Nat → Addr) (rel : Hp → List Addr → β → α → Prop) (φ : List Addr) (G : Hp) (O : Cs) (b : β) (H' : Hp) (k : α → Cs → List Addr → Hp → Prop) : Prop where
  ex : ∃ (φ' : List Addr) (G' : Hp) (T' : Cs) (a : α),Fut φ G φ' G' ∧ Sd ca φ' G' H' (O ++ T') ∧ rel G' φ' b a ∧ k a T' φ' G'
theorem Pc.bind {δ : Type} {rel : Hp → List Addr → β → α → Prop} {rel2 : Hp → List Addr → δ → γ → Prop} {r : R α} {k : α → Cs → R γ} {Q : δ → Hp → Prop} (h : Pc ca rel2 φ G O (r.bind k) Q) :
    Pc ca rel φ G O r (fun b H' => Mid ca rel φ G O b H' fun a T' φ' G' => Pc ca rel2 φ' G' O (k a T') Q) := by
  cases r with
  | ok a T =>
    have h : Pc ca rel2 φ G O (k a T) Q := h
    exact fun b φ2 G2 H2 f2 s r => ⟨φ2,G2,T,a,f2,s,r,h.later f2⟩
  | exc => exact h
  | fail => exact h
theorem Pc.keep {δ : Type} {rel : Hp → List Addr → β → α → Prop} {rel2 : Hp → List Addr → δ → γ → Prop} {φ1 : List Addr} {G1 : Hp} {r : R α} {k : α → Cs → R γ} {Q : δ → Hp → Prop} (h : Pc ca rel2 φ1 G1 O (r.bind k) Q) :
    Pc ca rel φ G O r (fun b H' => Mid ca rel φ G O b H' fun a T' φ' G' => Pc ca rel2 φ1 G1 O (k a T') Q) := by
  cases r with
  | ok a T =>
    have h : Pc ca rel2 φ1 G1 O (k a T) Q := h
    exact fun b φ2 G2 H2 f2 s r => ⟨φ2,G2,T,a,f2,s,r,h⟩
  | exc => exact h
  | fail => exact h
theorem Pc.now {rel : Hp → List Addr → β → α → Prop} {a : α} {b : β} {T : Cs} {Q : β → Hp → Prop} (h : Pc ca rel φ G O (.ok a T) Q) (s : Sd ca φ G H (O ++ T)) (r : rel G φ b a) : Q b H := h b φ G H Fut.refl s r
theorem _root_.L2.PE.imp {X : Cx} {e : Expr} {t t' : TE} (h : PE X e t) (k : ∀ σ H Q,t' σ H Q → t σ H Q) : PE X e t' := ⟨fun pins s σ H Q I q => h.run pins s σ H Q I (k σ H Q q)⟩
theorem _root_.L2.PT.imp {X : Cx} {e : Expr} {t t' : TT} (h : PT X e t) (k : ∀ σ H Q,t' σ H Q → t σ H Q) : PT X e t' := ⟨fun pins s σ H Q I q => h.run pins s σ H Q I (k σ H Q q)⟩
theorem _root_.L2.PW.imp {X : Cx} {e : Expr} {t t' : TT} (h : PW X e t) (k : ∀ σ H Q,t' σ H Q → t σ H Q) : PW X e t' := ⟨fun wh pins s σ H Q I q => h.run wh pins s σ H Q I (k σ H Q q)⟩
theorem _root_.L2.PA.imp {X : Cx} {e : List Expr} {t t' : TA} (h : PA X e t) (k : ∀ σ H Q,t' σ H Q → t σ H Q) : PA X e t' := ⟨fun pos pins s σ H Q I q => h.run pos pins s σ H Q I (k σ H Q q)⟩
theorem _root_.L2.PS.imp {X : Cx} {e : Stmt} {t t' : TS} (h : PS X e t) (k : ∀ D σ H,t' D σ H → t D σ H) : PS X e t' := ⟨fun pins s σ H D I q => h.run pins s σ H D I (k D σ H q)⟩
theorem _root_.L2.PSs.imp {X : Cx} {e : List Stmt} {t t' : TS} (h : PSs X e t) (k : ∀ D σ H,t' D σ H → t D σ H) : PSs X e t' := ⟨fun pins s σ H D I q => h.run pins s σ H D I (k D σ H q)⟩
theorem _root_.L2.PG.imp {X : Cx} {e : Expr} {t t' : TG} (h : PG X e t) (k : ∀ v σ H Q,t' v σ H Q → t v σ H Q) : PG X e t' := by
  refine ⟨?_⟩
  intro pins s σ H v u Q I r q
  exact h.run pins s σ H v u Q I r (k v σ H Q q)
structure At (ca : Nat → Addr) (φ : List Addr) (G H : Hp) (O T : Cs) (σ : St) (ρ : Rho) : Prop where
  s : Sd ca φ G H (O ++ T)
  l : Lo G φ σ ρ
  n : σ.length = ρ.length
def RE (ca : Nat → Addr) (C : Cn) (c : CE) : TE := fun σ H Q => ∃ φ G O ρ T,At ca φ G H O T σ ρ ∧ Pc ca rU φ G O (den C O ρ c T) Q
def RT (ca : Nat → Addr) (C : Cn) (c : CE) : TT := fun σ H Q => ∃ φ G O ρ T,At ca φ G H O T σ ρ ∧ Pc ca rB φ G O (tst (den C O ρ c T)) Q
def RA (ca : Nat → Addr) (C : Cn) (c : CA) : TA := fun σ H Q => ∃ φ G O ρ T,At ca φ G H O T σ ρ ∧ Pc ca rUs φ G O (denA C O ρ c T) Q
def rOp2 (ca : Nat → Addr) (f : Cs → U → U → Cs → R U) : R2 := fun x y H Q => ∃ φ G O T u w,Sd ca φ G H (O ++ T) ∧ RpU G φ x u ∧ RpU G φ y w ∧ Pc ca rU φ G O (f O u w T) Q
def rOp1 (ca : Nat → Addr) (f : Cs → U → Cs → R U) : V → Hp → VK → Prop := fun x H Q => ∃ φ G O T u,Sd ca φ G H (O ++ T) ∧ RpU G φ x u ∧ Pc ca rU φ G O (f O u T) Q
def rOpA (ca : Nat → Addr) (f : Cs → List U → Cs → R U) : List V → Hp → VK → Prop := fun xs H Q => ∃ φ G O T us,Sd ca φ G H (O ++ T) ∧ RpUs G φ xs us ∧ Pc ca rU φ G O (f O us T) Q
def rOpM (ca : Nat → Addr) (f : Cs → U → List U → Cs → R U) : V → List V → Hp → VK → Prop := fun x xs H Q => ∃ φ G O T u us,Sd ca φ G H (O ++ T) ∧ RpU G φ x u ∧ RpUs G φ xs us ∧ Pc ca rU φ G O (f O u us T) Q
variable {X : Cx} {C : Cn} {a b e : Expr} {ea eb ec : CE} {pos : Pos}
theorem to_op2 {f : Cs → U → U → Cs → R U} {c : CE} (hc : ∀ O ρ T,den C O ρ c T = (den C O ρ ea T).bind fun x T => (den C O ρ eb T).bind fun y T => f O x y T) :
    ∀ σ H Q,RE ca C c σ H Q → tOp (rOp2 ca f) (RE ca C ea) (RE ca C eb) σ H Q := by
  rintro σ H Q ⟨φ,G,O,ρ,T,t,h⟩
  rw [hc] at h
  refine ⟨φ,G,O,ρ,T,t,Pc.imp h.bind ?_⟩
  rintro x H1 ⟨φ1,G1,T1,u,f1,s1,r1,h1⟩
  refine ⟨φ1,G1,O,ρ,T1,⟨s1,f1.lo t.l,t.n⟩,Pc.imp h1.bind ?_⟩
  rintro y H2 ⟨φ2,G2,T2,w,f2,s2,r2,h2⟩
  exact ⟨φ2,G2,O,T2,u,w,s2,f2.u r1,r2,h2⟩
theorem to_op1 {f : Cs → U → Cs → R U} {c : CE} (hc : ∀ O ρ T,den C O ρ c T = (den C O ρ ea T).bind fun x T => f O x T) :
    ∀ σ H Q,RE ca C c σ H Q → tUn (rOp1 ca f) (RE ca C ea) σ H Q := by
  rintro σ H Q ⟨φ,G,O,ρ,T,t,h⟩
  rw [hc] at h
  refine ⟨φ,G,O,ρ,T,t,Pc.imp h.bind ?_⟩
  rintro x H1 ⟨φ1,G1,T1,u,f1,s1,r1,h1⟩
  exact ⟨φ1,G1,O,T1,u,s1,r1,h1⟩
theorem to_opA {f : Cs → List U → Cs → R U} {c : CE} {as : CA} (hc : ∀ O ρ T,den C O ρ c T = (denA C O ρ as T).bind fun x T => f O x T) :
    ∀ σ H Q,RE ca C c σ H Q → tCB (rOpA ca f) (RA ca C as) σ H Q := by
  rintro σ H Q ⟨φ,G,O,ρ,T,t,h⟩
  rw [hc] at h
  refine ⟨φ,G,O,ρ,T,t,Pc.imp h.bind ?_⟩
  rintro x H1 ⟨φ1,G1,T1,u,f1,s1,r1,h1⟩
  exact ⟨φ1,G1,O,T1,u,s1,r1,h1⟩
theorem pa_nil' : PA X [] (RA ca C .nil) := pa_nil.imp fun σ H Q => by
  rintro ⟨φ,G,O,ρ,T,t,h⟩
  exact Pc.now h t.s .nil
theorem pa_cons' {es : List Expr} {as : CA} (ha : PE X a (RE ca C ea)) (hr : PA X es (RA ca C as)) (hs : starEach (a :: es) X.env = (false,eval a X.env) :: starEach es X.env) : PA X (a :: es) (RA ca C (.cons ea as)) := by
  refine (pa_cons ha hr hs).imp ?_
  rintro σ H Q ⟨φ,G,O,ρ,T,t,h⟩
  rw [denA] at h
  refine ⟨φ,G,O,ρ,T,t,Pc.imp h.bind ?_⟩
  rintro x H1 ⟨φ1,G1,T1,u,f1,s1,r1,h1⟩
  refine ⟨φ1,G1,O,ρ,T1,⟨s1,f1.lo t.l,t.n⟩,Pc.imp h1.bind ?_⟩
  rintro y H2 ⟨φ2,G2,T2,w,f2,s2,r2,h2⟩
  exact Pc.now h2 s2 (.cons (f2.u r1) r2)
theorem pe_v {i : Nat} {x : Str} (hN : X.N[i]? = some x) (hv : Vis X.env.scope x) (hd : (x == ("__debug__" : Str)) = false) (hcd : (x == ("__classdict__" : Str)) = false) : PE X (.Name x pos) (RE ca C (.v i)) := by
  refine PE.imp (pe_var hN hv hd hcd) ?_
  rintro σ H Q ⟨φ,G,O,ρ,T,t,h⟩
  rw [den] at h
  cases hi : ρ[i]? with
  | none => rw [hi] at h; exact h.elim
  | some o =>
    cases o with
    | none => rw [hi] at h; exact h.elim
    | some u =>
      rw [hi] at h
      obtain ⟨v,h1,h2⟩ := t.l i u hi
      exact ⟨v,h1,Pc.now h t.s h2⟩
theorem pe_c {x : D} {v : V} (hv : ∀ G,Rp G v x) (he : PE X e (tC v)) : PE X e (RE ca C (.c x)) := he.imp fun σ H Q => by
  rintro ⟨φ,G,O,ρ,T,t,h⟩
  exact Pc.now h t.s (.d (hv G))
theorem pe_bin {o : Op} {op : Operator} {l : Bool} (ho : OpR X (binaryOp op) (rOp2 ca fun O x y T => binU O l o x y T)) (ha : PE X a (RE ca C ea)) (hb : PE X b (RE ca C eb)) : PE X (.BinOp a op b pos) (RE ca C (.bin l o ea eb)) :=
  (pe_op ho ha hb).imp (to_op2 fun _ _ _ => by rw [den])
def cmpR (o : COp) : Cs → U → U → Cs → R U := fun O x y T => match cmpU O o x y T with
  | some k => .ok (.d (.bool k)) T
  | none => .fail
theorem pe_cm {o : COp} {op : CmpOp} (ho : OpR X (compareOp op) (rOp2 ca (cmpR o))) (ha : PE X a (RE ca C ea)) (hb : PE X b (RE ca C eb)) (hm : behindInMarks op b = false) : PE X (.Compare a [op] [b] pos) (RE ca C (.cmp o ea eb)) :=
  (pe_cmpR ho ha hb hm).imp (to_op2 fun _ _ _ => by rw [den] <;> rfl)
theorem asB_bl {G : Hp} {v : V} {u : U} {k : Bool} (e : asB u = some k) (r : RpU G φ v u) : v = .bl k := by
  unfold asB at e
  split at e
  · cases e
    cases r with
    | d r => cases r; rfl
  · cases e
theorem Pc.tst {r : R U} {Q : Bool → Hp → Prop} (h : Pc ca rB φ G O (Y.tst r) Q) : Pc ca rU φ G O r (fun v H' => ∃ k,v = .bl k ∧ Q k H') := by
  cases r with
  | ok u T =>
    intro v φ2 G2 H2 f2 s r
    have h : Pc ca rB φ G O (R.ofO T (asB u)) Q := h
    cases e : asB u with
    | none => rw [e] at h; exact h.elim
    | some k =>
      rw [e] at h
      exact ⟨k,asB_bl e r,h k φ2 G2 H2 f2 s rfl⟩
  | exc => exact h
  | fail => exact h
theorem to_tst {c : CE} : ∀ σ H Q,RT ca C c σ H Q → tTest (RE ca C c) σ H Q := by
  rintro σ H Q ⟨φ,G,O,ρ,T,t,h⟩
  exact ⟨φ,G,O,ρ,T,t,h.tst⟩
theorem pt_e {c : CE} (h : PE X e (RE ca C c)) (he : ∀ whole,isTrue e X.env whole = (do let v ← whole; standAt e.pos; holding [v] (truthy v))) : PT X e (RT ca C c) :=
  (pt_val h he).imp to_tst
theorem pt_cm {o : COp} {op : CmpOp} (ho : OpR X (compareOp op) (rOp2 ca (cmpR o))) (ha : PE X a (RE ca C ea)) (hb : PE X b (RE ca C eb)) (hm : behindInMarks op b = false) : PT X (.Compare a [op] [b] pos) (RT ca C (.cmp o ea eb)) :=
  (pt_cmpR ho ha hb hm).imp fun σ H Q h => by
    obtain ⟨φ,G,O,ρ,T,t,h⟩ := to_tst σ H Q h
    exact to_op2 (fun _ _ _ => by rw [den] <;> rfl) σ H _ ⟨φ,G,O,ρ,T,t,h⟩
theorem to_chain {o o' : COp} : ∀ σ H Q,RE ca C (.chain o o' ea eb ec) σ H Q → tChain (rOp2 ca (cmpR o)) (rOp2 ca (cmpR o')) (RE ca C ea) (RE ca C eb) (RE ca C ec) σ H Q := by
  rintro σ H Q ⟨φ,G,O,ρ,T,t,h⟩
  rw [den] at h
  refine ⟨φ,G,O,ρ,T,t,Pc.imp h.bind ?_⟩
  rintro x H1 ⟨φ1,G1,T1,u,f1,s1,r1,h1⟩
  refine ⟨φ1,G1,O,ρ,T1,⟨s1,f1.lo t.l,t.n⟩,Pc.imp h1.bind ?_⟩
  rintro y H2 ⟨φ2,G2,T2,w,f2,s2,r2,h2⟩
  refine ⟨φ2,G2,O,T2,u,w,s2,f2.u r1,r2, ?_⟩
  unfold cmpR
  cases e : cmpU O o u w T2 with
  | none => rw [e] at h2; exact h2
  | some k =>
    rw [e] at h2
    intro v φ3 G3 H3 f3 s3 r3
    cases r3 with
    | d r3 =>
      cases r3
      refine ⟨k,rfl, ?_⟩
      cases k with
      | false => exact Pc.now (h2.later f3) s3 (.d (.bl _))
      | true =>
        rw [if_pos rfl]
        refine ⟨φ3,G3,O,ρ,T2,⟨s3,(f1.trans (f2.trans f3)).lo t.l,t.n⟩,Pc.imp (h2.later f3).bind ?_⟩
        rintro z H4 ⟨φ4,G4,T4,w4,f4,s4,r4,h4⟩
        exact ⟨φ4,G4,O,T4,w,w4,s4,(f3.trans f4).u r2,r4,h4⟩
theorem pt_ch {o o' : COp} {op op' : CmpOp} (ho : OpR X (compareOp op) (rOp2 ca (cmpR o))) (ho' : OpR X (compareOp op') (rOp2 ca (cmpR o'))) (ha : PE X a (RE ca C ea)) (hb : PE X b (RE ca C eb)) (he : PE X e (RE ca C ec)) (hm : lastMarks [op,op'] [b,e] = false) :
    PT X (.Compare a [op,op'] [b,e] pos) (RT ca C (.chain o o' ea eb ec)) := (pt_chain ho ho' ha hb he hm).imp fun σ H Q h => by
    obtain ⟨φ,G,O,ρ,T,t,h⟩ := to_tst σ H Q h
    exact to_chain σ H _ ⟨φ,G,O,ρ,T,t,h⟩
theorem Pc.br {δ : Type} {rel2 : Hp → List Addr → δ → γ → Prop} {Q : δ → Hp → Prop} {r : R U} {k : Bool → Cs → R γ} (h : Pc ca rel2 φ G O (r.bind fun x T => brB (asB x) (k true T) (k false T)) Q) :
    Pc ca rB φ G O (Y.tst r) (fun b H' => Mid ca rB φ G O b H' fun a T' φ' G' => Pc ca rel2 φ' G' O (k a T') Q) := by
  cases r with
  | ok u T =>
    have h : Pc ca rel2 φ G O (brB (asB u) (k true T) (k false T)) Q := h
    show Pc ca rB φ G O (R.ofO T (asB u)) _
    cases e : asB u with
    | none => rw [e] at h; exact h
    | some b =>
      rw [e] at h
      intro b' φ2 G2 H2 f2 s r
      have r : b' = b := r
      subst r
      refine ⟨φ2,G2,T,b',f2,s,rfl, ?_⟩
      cases b' <;> exact h.later f2
  | exc => exact h
  | fail => exact h
theorem Pc.keepBr {δ : Type} {rel2 : Hp → List Addr → δ → γ → Prop} {Q : δ → Hp → Prop} {φ1 : List Addr} {G1 : Hp} {r : R U} {k : Bool → Cs → R γ} (h : Pc ca rel2 φ1 G1 O (r.bind fun x T => brB (asB x) (k true T) (k false T)) Q) :
    Pc ca rB φ G O (Y.tst r) (fun b H' => Mid ca rB φ G O b H' fun a T' φ' G' => Pc ca rel2 φ1 G1 O (k a T') Q) := by
  cases r with
  | ok u T =>
    have h : Pc ca rel2 φ1 G1 O (brB (asB u) (k true T) (k false T)) Q := h
    show Pc ca rB φ G O (R.ofO T (asB u)) _
    cases e : asB u with
    | none => rw [e] at h; exact h
    | some b =>
      rw [e] at h
      intro b' φ2 G2 H2 f2 s r
      have r : b' = b := r
      subst r
      refine ⟨φ2,G2,T,b',f2,s,rfl, ?_⟩
      cases b' <;> exact h
  | exc => exact h
  | fail => exact h
theorem to_and : ∀ σ H Q,RE ca C (.and ea eb) σ H Q → tAndV (RE ca C ea) (RE ca C eb) σ H Q := by
  rintro σ H Q ⟨φ,G,O,ρ,T,t,h⟩
  rw [den] at h
  refine ⟨φ,G,O,ρ,T,t,Pc.imp (Pc.tst (Pc.br (k := fun b T => if b = true then den C O ρ eb T else .ok (.d (.bool false)) T) h)) ?_⟩
  rintro x H1 ⟨k,rfl,φ1,G1,T1,u,f1,s1,r1,h1⟩
  have r1 : k = u := r1
  subst r1
  refine ⟨k,rfl, ?_⟩
  cases k with
  | true => exact ⟨φ1,G1,O,ρ,T1,⟨s1,f1.lo t.l,t.n⟩,h1⟩
  | false => exact Pc.now h1 s1 (.d (.bl _))
theorem to_not : ∀ σ H Q,RE ca C (.not ea) σ H Q → tNotV (RE ca C ea) σ H Q := by
  rintro σ H Q ⟨φ,G,O,ρ,T,t,h⟩
  rw [den] at h
  have h' : Pc ca rU φ G O ((den C O ρ ea T).bind fun x T => brB (asB x) (.ok (.d (.bool false)) T) (.ok (.d (.bool true)) T)) Q := by
    cases e : den C O ρ ea T with
    | ok u T =>
      rw [e] at h
      show Pc ca rU φ G O (brB (asB u) (.ok (.d (.bool false)) T) (.ok (.d (.bool true)) T)) Q
      have h : Pc ca rU φ G O (match asB u with | some b => .ok (.d (.bool (!b))) T | none => .fail) Q := h
      cases e : asB u with
      | none => rw [e] at h; exact h
      | some b => rw [e] at h; cases b <;> exact h
    | exc => rw [e] at h; exact h
    | fail => rw [e] at h; exact h
  refine ⟨φ,G,O,ρ,T,t,Pc.imp (Pc.tst (Pc.br (k := fun b T => (.ok (.d (.bool (!b))) T : R U)) h')) ?_⟩
  rintro x H1 ⟨k,rfl,φ1,G1,T1,u,f1,s1,r1,h1⟩
  have r1 : k = u := r1
  subst r1
  exact ⟨k,rfl,Pc.now h1 s1 (.d (.bl _))⟩
theorem tst_bind {r : R U} {k : U → Cs → R U} : tst (r.bind k) = r.bind fun u T => tst (k u T) := by cases r <;> rfl
theorem tst_br {x : Option Bool} {p q : R U} : tst (brB x p q) = brB x (tst p) (tst q) := by
  cases x with
  | none => rfl
  | some b => cases b <;> rfl
theorem to_orT : ∀ σ H Q,RT ca C (.or ea eb) σ H Q → tOr (RT ca C ea) (RT ca C eb) σ H Q := by
  rintro σ H Q ⟨φ,G,O,ρ,T,t,h⟩
  rw [den,tst_bind] at h
  simp only [tst_br] at h
  refine ⟨φ,G,O,ρ,T,t,Pc.imp (Pc.br (k := fun b T => if b = true then tst (.ok (.d (.bool true)) T) else tst (den C O ρ eb T)) h) ?_⟩
  rintro k H1 ⟨φ1,G1,T1,u,f1,s1,r1,h1⟩
  have r1 : k = u := r1
  subst r1
  cases k with
  | false => exact ⟨φ1,G1,O,ρ,T1,⟨s1,f1.lo t.l,t.n⟩,h1⟩
  | true => exact Pc.now (a := true) h1 s1 rfl
theorem to_notT : ∀ σ H Q,RT ca C (.not ea) σ H Q → tNot (RT ca C ea) σ H Q := by
  rintro σ H Q ⟨φ,G,O,ρ,T,t,h⟩
  rw [den,tst_bind] at h
  have h' : Pc ca rB φ G O ((den C O ρ ea T).bind fun x T => brB (asB x) (.ok false T) (.ok true T)) Q := by
    cases e : den C O ρ ea T with
    | ok u T =>
      rw [e] at h
      show Pc ca rB φ G O (brB (asB u) (.ok false T) (.ok true T)) Q
      have h : Pc ca rB φ G O (tst (match asB u with | some b => .ok (.d (.bool (!b))) T | none => .fail)) Q := h
      cases e : asB u with
      | none => rw [e] at h; exact h
      | some b => rw [e] at h; cases b <;> exact h
    | exc => rw [e] at h; exact h
    | fail => rw [e] at h; exact h
  refine ⟨φ,G,O,ρ,T,t,Pc.imp (Pc.br (k := fun b T => (.ok (!b) T : R Bool)) h') ?_⟩
  rintro k H1 ⟨φ1,G1,T1,u,f1,s1,r1,h1⟩
  have r1 : k = u := r1
  subst r1
  exact Pc.now h1 s1 rfl
theorem sizeOk_le {n : Nat} (h : sizeOk n = true) : n ≤ 1000000 := of_decide_eq_true h
theorem sz_le {n : Nat} (h : n ≤ 1000000) : n ≤ sizeLine := Nat.le_trans h (by decide)
theorem sz_lt {n : Nat} (h : n ≤ 1000000) : n < sizeLine := Nat.lt_of_le_of_lt h (by decide)
theorem mkT_ok {vs : List V} {us : List U} {T : Cs} {p : Addr} {Q : VK} (h : Pc ca rU φ G O (.ok (mkT us) T) Q) (s : Sd ca φ G H (O ++ T)) (r : RpUs G φ vs us) (np : H p = none) : Q (.ref p) (upd H p (.tup vs)) := by
  have f : Fut φ G φ (upd G p (.tup vs)) := s.knowF np
  refine h (.ref p) φ _ _ f (s.know np) ?_
  show RpU _ _ _ (mkT us)
  unfold mkT
  cases e : allD us with
  | none => exact .tup upd_same (f.us r)
  | some ds => exact .d (.tup upd_same ((f.us r).down e))
theorem mkL_ok {l : Bool} {vs : List V} {us : List U} {T : Cs} {p : Addr} {Q : VK} (h : Pc ca rU φ G O (mkL O l us T) Q) (s : Sd ca φ G H (O ++ T)) (r : RpUs G φ vs us) (np : H p = none) : Q (.ref p) (upd H p (.lst vs)) := by
  unfold mkL at h
  cases l with
  | true =>
    rw [if_pos rfl] at h
    have c : CellOk ca G (φ ++ [p]) (upd H p (.lst vs)) p (cellOf us) := by
      unfold cellOf
      cases e : allD us with
      | none => exact ⟨vs,upd_same,Sd.newF.us r⟩
      | some ds => exact ⟨vs,upd_same,r.down e⟩
    have s' := s.cellNew np c
    rw [List.append_assoc] at s'
    refine h (.ref p) (φ ++ [p]) G _ Sd.newF s' (.ref ?_)
    have e := s.len
    rw [List.length_append] at e
    rw [← e]
    simp
  | false =>
    rw [if_neg Bool.false_ne_true] at h
    cases e : allD us with
    | none => rw [e] at h; exact h.elim
    | some ds =>
      rw [e] at h
      have f : Fut φ G φ (upd G p (.lst vs)) := s.knowF np
      exact h (.ref p) φ _ _ f (s.know np) (.d (.lst (.inl upd_same) ((f.us r).down e)))
theorem pe_tu {es : List Expr} {as : CA} {k : Nat} (h : PA X es (RA ca C as)) : PE X (.Tuple es k pos) (RE ca C (.tup as)) := (pe_tup h).imp (by
  rintro σ H Q ⟨φ,G,O,ρ,T,t,h⟩
  rw [den] at h
  refine ⟨φ,G,O,ρ,T,t,Pc.imp h.bind ?_⟩
  rintro x H1 ⟨φ1,G1,T1,u,f1,s1,r1,h1⟩
  split at h1
  · rename_i hz
    refine ⟨sz_le (by rw [RpUs.length r1]; exact sizeOk_le hz),fun p np => mkT_ok h1 s1 r1 np⟩
  · exact h1.elim)
theorem pe_li {es : List Expr} {as : CA} {l : Bool} (h : PA X es (RA ca C as)) : PE X (.List es pos) (RE ca C (.lst l as)) := (pe_lst h).imp (by
  rintro σ H Q ⟨φ,G,O,ρ,T,t,h⟩
  rw [den] at h
  refine ⟨φ,G,O,ρ,T,t,Pc.imp h.bind ?_⟩
  rintro x H1 ⟨φ1,G1,T1,u,f1,s1,r1,h1⟩
  split at h1
  · rename_i hz
    refine ⟨sz_le (by rw [RpUs.length r1]; exact sizeOk_le hz),fun p np => mkL_ok h1 s1 r1 np⟩
  · exact h1.elim)
theorem pe_sub {ix : CE} (hi : IxR X (rOp2 ca fun O x y T => R.ofO T (ixU O x y T))) (ha : PE X a (RE ca C ea)) (hb : PE X b (RE ca C eb)) (hs : PlainIx b) : PE X (.Subscript a b pos) (RE ca C (.ix ea eb)) :=
  (pe_ix hi ha hb hs).imp (to_op2 fun _ _ _ => by rw [den])
end
theorem tuple_mul1 (l : Addr) (items : Array Value) (n : Nat) (dd : Option Addr) (sl : Array (Option Value)) (u : Tok) :
    Meets (Builtin.«tuple.__mul__» ⟨[.ref l,.int 1 u],[]⟩) (fun _ R s => s.heap.get? l = some { cls := .type "tuple",dict := dd,data := .seq items n,slots := sl } ∧ R (.ok (.ret (Value.ref l))) s) :=
  .of_wp fun prog w A R s h => by
    obtain ⟨hp,g,d,tk,os⟩ := s
    obtain ⟨hl,h⟩ := h
    have f1 := AutoSeq1.idx_int
    have c0 : (decide ((1 : Int) < -(2 ^ 63)) || decide ((1 : Int) ≥ 2 ^ 63)) = false := by decide +kernel
    have c1 : (items.isEmpty || (1 : Int) == 1) = true := by simp
    wp_walk using wpAny_loadPart' hl
    repeat (first
      | (refine wpAny_ite_false (decide_eq_false (by rw [c0]; exact Bool.false_ne_true)) ?_; wp_walk using wpAny_loadPart' hl)
      | (refine wpAny_ite_true (decide_eq_true (by rw [c1])) ?_; wp_walk using wpAny_loadPart' hl))
    exact ⟨_,rfl,h⟩
def rRep1 (K : PySem.W.Frag) : R2 := fun x y H Q => ∃ l xs,x = .ref l ∧ y = .int 1 ∧ SqT K H l xs ∧ Q (.ref l) H
theorem op_rep1 {X : Cx} : OpR X (binaryOp .Mult) (rRep1 X.K) := by
  intro pins s σ H x y v u Q I rx ry h
  obtain ⟨l,xs,rfl,rfl,hT,q⟩ := h
  cases rx
  obtain ⟨t,rfl⟩ := ry
  obtain ⟨its,r,⟨⟨cls,dd,data,sl⟩,ho,hc,n,hd⟩,hs⟩ := I.tuple hT
  simp only at hc hd
  subst hc hd
  refine wpAny_binaryOp_repeat_ref (T := "tuple") (U := "int") (by decide) ⟨_,ho,rfl⟩ (fun s' => typeIs_int s' 1 t) noFill_tuple_mul F.fills_int_mul F.slot_int_rmul repeat_tuple F.slot_int_index.lookup
    (call_meets F.slot_int_rmul (typeIs_int s 1 t) F.entry_int_rmul (F.args_int_rmul_2 _ _) (int_rmul_tuple 1 t l its.toArray n dd sl)
      ⟨ho,rfl,⟨_,ho,rfl⟩,call_meets F.slot_tuple_mul ⟨_,ho,rfl⟩ F.entry_tuple_mul (F.args_tuple_mul_2 _ _) (tuple_mul1 l its.toArray n dd sl t) ⟨ho, ?_⟩⟩)
  exact ⟨.ref l,_,I,rfl,q⟩
end Y
namespace Y
section
open PySem PySem.Spec PyProof.Rows L2
variable {X : Cx} {pins : List (Addr × Obj)} {σ : L2.St} {H : Hp} {s : Shared} {l : Addr} {xs : List V}
theorem lstR (I : Inv X pins σ H s) (hH : Rd H l (.lst xs)) : xs.length ≤ sizeLine ∧ ∃ (its : List Value) (n : Nat),Vals xs its ∧ xs.length = its.length ∧ s.heap.get? l = some { cls := .type "list",data := .seq its.toArray n } := by
  obtain ⟨z,its,n,r,e⟩ := hH.ok I.hok
  exact ⟨z,its,n,r,r.length,e⟩
def rCatR : R2 := fun x y H Q => ∃ l b xs zs,x = .ref l ∧ y = .ref b ∧ Rd H l (.lst xs) ∧ Rd H b (.lst zs) ∧ xs.length + zs.length ≤ sizeLine ∧ ∀ p,H p = none → Q (.ref p) (upd H p (.lst (xs ++ zs)))
def rRepR : R2 := fun x y H Q => ∃ l k xs,x = .ref l ∧ y = .int k ∧ Rd H l (.lst xs) ∧ -(2 ^ 63) ≤ k ∧ k < 2 ^ 63 ∧ xs.length * k.toNat ≤ sizeLine ∧
  ∀ p,H p = none → Q (.ref p) (upd H p (.lst (List.replicate k.toNat xs).flatten))
def rExtendR : V → List V → Hp → VK → Prop := fun x vs H Q => ∃ l b xs zs,x = .ref l ∧ vs = [.ref b] ∧ H l = some (.lst xs) ∧ Rd H b (.lst zs) ∧ xs.length + zs.length ≤ sizeLine ∧ Q .non (upd H l (.lst (xs ++ zs)))
theorem op_catR : OpR X (binaryOp .Add) rCatR := by
  intro pins s σ H x y v u Q I rx ry h
  obtain ⟨l,b,xs,zs,rfl,rfl,hH,hB,hz,q⟩ := h
  cases rx
  cases ry
  obtain ⟨z,its,n,r,hl,e⟩ := lstR I hH
  obtain ⟨z2,its2,n2,r2,hl2,e2⟩ := lstR I hB
  refine PySem.P.add_list e e2 ?_ (by rw [List.size_toArray,List.size_toArray]; omega)
  have ea : its.toArray ++ its2.toArray = (its ++ its2).toArray := by simp
  rw [ea]
  exact ⟨.ref _,_,I.lnew (t' := s.toks) (r.append r2) (by rw [List.length_append]; omega),rfl,q _ I.fresh⟩
theorem op_repR : OpR X (binaryOp .Mult) rRepR := by
  intro pins s σ H x y v u Q I rx ry h
  obtain ⟨l,k,xs,rfl,rfl,hH,h1,h2,hz,q⟩ := h
  cases rx
  obtain ⟨t,rfl⟩ := ry
  obtain ⟨z,its,n,r,hl,e⟩ := lstR I hH
  have hlen : its.toArray.size * k.toNat ≤ sizeLine := by rw [List.size_toArray,← hl]; exact hz
  have hcap : ¬ its.toArray.size * k.toNat > (2 ^ 63 - 1) / 8 := by
    have : (sizeLine : Nat) ≤ (2 ^ 63 - 1) / 8 := by decide
    omega
  have hfit : ¬ (!Builtin.List.listFitsIndex k) = true := by
    rw [fitsIndex_both h1 h2]
    exact Bool.false_ne_true
  have hlong : ¬ Builtin.List.listTooLong (its.toArray.size * k.toNat) = true := by
    rw [notLongL hlen]
    exact Bool.false_ne_true
  have hnew : List.foldl (fun x1 x2 => x1 ++ x2) #[] (List.replicate (if its.toArray.isEmpty = true then 0 else k.toNat) its.toArray) = (List.replicate k.toNat its).flatten.toArray := by
    have f0 : ∀ m : Nat,List.foldl (fun x1 x2 => x1 ++ x2) #[] (List.replicate m its.toArray) = (List.replicate m its).flatten.toArray := fun m => by
      have := foldl_rep its m []
      rw [List.nil_append] at this
      exact this
    rw [f0]
    cases its with
    | nil => simp
    | cons a r' => rw [if_neg (by simp)]
  refine wpAny_binaryOp_repeat_ref (T := "list") (U := "int") (by decide) ⟨_,e,rfl⟩ (fun s' => typeIs_int s' k t) noFill_list_mul F.fills_int_mul F.slot_int_rmul repeat_list F.slot_int_index.lookup
    (call_meets F.slot_int_rmul (typeIs_int s k t) F.entry_int_rmul (F.args_int_rmul_2 _ _) (int___rmul___int_list k t l its.toArray n)
      ⟨e,rfl,⟨_,e,rfl⟩,call_meets F.slot_list_mul ⟨_,e,rfl⟩ F.entry_list_mul (F.args_list_mul_2 _ _) (AutoListH.list___mul___list_int_3 l its.toArray n k t hfit hcap hlong) ⟨e, ?_⟩⟩)
  rw [hnew]
  exact ⟨.ref _,_,I.lnew (t' := s.toks) (r.rep k.toNat) (by rw [PyProof.Rows.lm_len_rep_flat,Nat.mul_comm]; exact hz),rfl,q _ I.fresh⟩
theorem mt_extendR : MtM X "list.extend" rExtendR := by
  intro pins s σ H x vs v us Q I rx rv h
  obtain ⟨l,b,xs,zs,rfl,rfl,hH,hB,hz,q⟩ := h
  cases rx
  obtain ⟨u,rfl,ru⟩ := rv.one
  cases ru
  obtain ⟨z,its,n,r,hl,e⟩ := I.lstM hH
  obtain ⟨z2,its2,n2,r2,hl2,e2⟩ := lstR I hB
  have hsz : its.toArray.size + its2.toArray.size ≤ sizeLine := by rw [List.size_toArray,List.size_toArray]; omega
  have hlong : ¬ (!its.toArray.isEmpty && Builtin.List.listTooLong (its.toArray.size + its2.toArray.size)) = true := by
    rw [notLongL hsz,Bool.and_false]
    exact Bool.false_ne_true
  refine call_meets F.slot_list_extend ⟨_,e,rfl⟩ F.entry_list_extend (F.args_list_extend_2 _ _)
    (AutoSeq1.list_extend_list_list_0 l its.toArray n b its2.toArray n2 hlong (by rw [List.size_toArray]; omega) (by omega)) ⟨e,e2, ?_⟩
  refine ⟨.non,_,I.lset (its' := its ++ its2) hH e (by simp) (r.append r2) ?_,rfl,q⟩
  rw [List.length_append]
  omega
end
open PySem PySem.Spec L2
section
variable {ca : Nat → Addr} {φ φ' : List Addr} {G G' H : Hp} {O T : Cs} {X : Cx} {K : PySem.W.Frag}
theorem cell_at (s : Sd ca φ G H (O ++ T)) {i : Nat} {a : Addr} {c : Cell} (hi : φ[i]? = some a) (e : getC O T i = some c) : CellOk ca G φ H a c := by
  rw [getC_eq] at e
  exact s.cell i a c hi e
theorem seqL_ok (s : Sd ca φ G H (O ++ T)) {u : U} {v : V} {us : List U} (r : RpU G φ v u) (e : seqL O T u = some us) : ∃ a vs,v = .ref a ∧ Rd H a (.lst vs) ∧ RpUs G φ vs us := by
  unfold seqL at e
  split at e
  · cases e
    cases r with
    | d r => cases r with | lst h1 h2 => exact ⟨_,_,rfl,s.ex.rd h1,h2.up⟩
  · cases r with
    | ref hi =>
      split at e
      · rename_i hc
        cases e
        obtain ⟨vs,h1,h2⟩ := cell_at s hi hc
        exact ⟨_,vs,rfl,.inl h1,h2.up⟩
      · rename_i hc
        cases e
        obtain ⟨vs,h1,h2⟩ := cell_at s hi hc
        exact ⟨_,vs,rfl,.inl h1,h2⟩
      · cases e
  · cases e
theorem seqT_okG {u : U} {v : V} {us : List U} (r : RpU G φ v u) (e : seqT u = some us) : ∃ a vs,v = .ref a ∧ G a = some (.tup vs) ∧ RpUs G φ vs us := by
  unfold seqT at e
  split at e
  · cases e
    cases r with
    | d r => cases r with | tup h1 h2 => exact ⟨_,_,rfl,h1,h2.up⟩
  · cases e
    cases r with
    | tup h1 h2 => exact ⟨_,_,rfl,h1,h2⟩
  · cases e
theorem seqT_ok (s : Sd ca φ G H (O ++ T)) {u : U} {v : V} {us : List U} (r : RpU G φ v u) (e : seqT u = some us) : ∃ a vs,v = .ref a ∧ H a = some (.tup vs) ∧ RpUs G φ vs us := by
  obtain ⟨a,vs,h1,h2,h3⟩ := seqT_okG r e
  exact ⟨a,vs,h1,s.ex _ _ h2,h3⟩
theorem mkT_rp {a : Addr} {vs : List V} {us : List U} (h : G a = some (.tup vs)) (r : RpUs G φ vs us) : RpU G φ (.ref a) (mkT us) := by
  unfold mkT
  cases e : allD us with
  | none => exact .tup h r
  | some ds => exact .d (.tup h (r.down e))
theorem seqA_ok (s : Sd ca φ G H (O ++ T)) {u : U} {v : V} {us : List U} (r : RpU G φ v u) (e : seqA O T u = some us) : ∃ a vs,v = .ref a ∧ (Rd H a (.lst vs) ∨ H a = some (.tup vs)) ∧ RpUs G φ vs us := by
  unfold seqA at e
  split at e
  · rename_i h
    cases e
    obtain ⟨a,vs,h1,h2,h3⟩ := seqL_ok s r h
    exact ⟨a,vs,h1,.inl h2,h3⟩
  · obtain ⟨a,vs,h1,h2,h3⟩ := seqT_ok s r e
    exact ⟨a,vs,h1,.inr h2,h3⟩
theorem rp_int {v : V} {i : Int} (r : RpU G φ v (.d (.int i))) : v = .int i := by cases r with | d r => cases r; rfl
theorem rp_str {v : V} {i : Str} (r : RpU G φ v (.d (.str i))) : v = .str i := by cases r with | d r => cases r; rfl
theorem rp_bl {v : V} {i : Bool} (r : RpU G φ v (.d (.bool i))) : v = .bl i := by cases r with | d r => cases r; rfl
def opS : Op → Operator
  | .add => .Add | .sub => .Sub | .mul => .Mult | .fdiv => .FloorDiv | .mod => .Mod | .pow => .Pow | .shl => .LShift | .shr => .RShift | .band => .BitAnd | .bor => .BitOr | .bxor => .BitXor
def rIntOp (o : Op) : R2 := fun x y H Q => ∃ i j k,x = .int i ∧ y = .int j ∧ binI o i j = some k ∧ Q (.int k) H
theorem big_log {j : Int} (h0 : 0 < j) (h : j < 1000000000000000000000000000000000000000000000000000000000000) : j.natAbs.log2 < 9000 := by
  have h1 : j.natAbs < 2 ^ 200 := by
    have : j.natAbs < 1000000000000000000000000000000000000000000000000000000000000 := by omega
    exact Nat.lt_trans this (by decide)
  have h2 : j.natAbs ≠ 0 := by omega
  have := (Nat.log2_lt h2).mpr h1
  omega
theorem op_int (o : Op) : OpR X (binaryOp (opS o)) (rIntOp o) := by
  rintro pins s σ H x y v u Q I rx ry ⟨i,j,k,rfl,rfl,e,q⟩
  cases o with
  | add => cases e; exact op_add pins s σ H _ _ v u Q I rx ry ⟨i,j,rfl,rfl,q⟩
  | sub => cases e; exact op_sub pins s σ H _ _ v u Q I rx ry ⟨i,j,rfl,rfl,q⟩
  | band => cases e; exact op_and pins s σ H _ _ v u Q I rx ry ⟨i,j,rfl,rfl,q⟩
  | bor => cases e; exact op_or pins s σ H _ _ v u Q I rx ry ⟨i,j,rfl,rfl,q⟩
  | bxor => cases e; exact op_xor pins s σ H _ _ v u Q I rx ry ⟨i,j,rfl,rfl,q⟩
  | mul =>
    simp only [binI] at e
    split at e
    · rename_i h
      cases e
      simp only [mulOk,Bool.or_eq_true,Bool.and_eq_true,decide_eq_true_eq] at h
      rcases h with h | h
      · refine op_mul pins s σ H _ _ v u Q I rx ry ⟨i,j,rfl,rfl, ?_,q⟩
        unfold CMul
        omega
      · refine op_mulX pins s σ H _ _ v u Q I rx ry ⟨i,j,rfl,rfl, ?_,q⟩
        unfold CMulX
        omega
    · cases e
  | fdiv =>
    simp only [binI] at e
    split at e
    · rename_i h
      cases e
      exact op_fdivW pins s σ H _ _ v u Q I rx ry ⟨i,j,rfl,rfl,⟨h.1,big_log h.1 h.2⟩,q⟩
    · cases e
  | mod =>
    simp only [binI] at e
    split at e
    · rename_i h
      cases e
      exact op_mod pins s σ H _ _ v u Q I rx ry ⟨i,j,rfl,rfl,h,q⟩
    · cases e
  | pow =>
    simp only [binI] at e
    split at e
    · rename_i h
      cases e
      exact op_pow pins s σ H _ _ v u Q I rx ry ⟨i,j,rfl,rfl,⟨h.1,by omega,by omega⟩,q⟩
    · cases e
  | shl =>
    simp only [binI] at e
    split at e
    · rename_i h
      cases e
      exact op_shl pins s σ H _ _ v u Q I rx ry ⟨i,j,rfl,rfl,⟨h.1,by omega,by omega⟩,q⟩
    · cases e
  | shr =>
    simp only [binI] at e
    split at e
    · rename_i h
      cases e
      exact op_shr pins s σ H _ _ v u Q I rx ry ⟨i,j,rfl,rfl,h,q⟩
    · cases e
theorem foldl_size (xs : Array Nat) : ∀ (k : Nat) (acc : Array Nat),((List.replicate k xs).foldl (fun x1 x2 => x1 ++ x2) acc).size = acc.size + k * xs.size
  | 0,acc => by simp
  | k + 1,acc => by
    rw [List.replicate_succ,List.foldl_cons,foldl_size xs k]
    simp [Nat.add_mul]
    omega
theorem op_rep0 : OpR X (binaryOp .Mult) (fun x y H Q => ∃ (a : Str),x = .str a ∧ y = .int 0 ∧ Q (.str (repS a 0)) H) := by
  rintro pins s σ H x y v w Q I rx ry ⟨a,rfl,rfl,q⟩
  obtain ⟨t,rfl⟩ := rx
  obtain ⟨u,rfl⟩ := ry
  refine PySem.P.mul_str ?_ ?_ ?_ ?_
  · decide
  · exact fun h => absurd (by decide) h
  · exact fun h => absurd (by decide) h
  · rw [if_pos (by decide)]
    exact ⟨by decide,⟨V.str _,H,I.tok _,⟨_,rfl⟩,q⟩⟩
theorem op_repS : OpR X (binaryOp .Mult) (fun x y H Q => ∃ (a : Str) (k : Int),x = .str a ∧ y = .int k ∧ 0 ≤ k ∧ k ≤ 1000 ∧ a.length ≤ 1000 ∧ 1 ≤ a.length ∧ Q (.str (repS a k.toNat)) H) := by
  rintro pins s σ H x y v w Q I rx ry ⟨a,k,rfl,rfl,h1,h2,h3,h4,q⟩
  by_cases h0 : k = 0
  · subst h0
    exact op_rep0 pins s σ H _ _ v w Q I rx ry ⟨a,rfl,rfl,q⟩
  have h1 : 1 ≤ k := by omega
  obtain ⟨t,rfl⟩ := rx
  obtain ⟨u,rfl⟩ := ry
  have hk : k.toNat ≤ 1000 := by omega
  have hlen : a.length * k.toNat ≤ 1000000 := Nat.mul_le_mul h3 hk
  refine PySem.P.mul_str ?_ ?_ ?_ ?_
  · rw [decide_eq_false (by omega),decide_eq_false (by omega)]; rfl
  · intro _ _
    have : ((2 : Int) ^ 63 - 1) / k ≥ 1000 := by
      rw [ge_iff_le,Int.le_ediv_iff_mul_le (by omega)]
      omega
    omega
  · intro _ _
    have e : (16777216 : Nat) = sizeLine := by decide
    show decide (a.length * k.toNat > sizeLine) = false
    exact decide_eq_false (by omega)
  · rw [if_neg (by omega)]
    by_cases h : k = 1
    · subst h
      exact ⟨.str a,H,I,⟨t,rfl⟩,q⟩
    · have hb : (k == 1 || a.length == 0) = false := by
        rw [Bool.or_eq_false_iff]
        exact ⟨beq_eq_false_iff_ne.mpr h,beq_eq_false_iff_ne.mpr (by omega)⟩
      rw [hb]
      unfold repS at q
      rw [if_neg (by omega)] at q
      refine ⟨?_,⟨V.str _,H,I.tok _,⟨_,rfl⟩,q⟩⟩
      have e : (⟨(List.replicate k.toNat a.cps).foldl (· ++ ·) #[]⟩ : Str).length = 0 + k.toNat * a.length := foldl_size a.cps k.toNat #[]
      rw [e,Nat.zero_add,Nat.mul_comm]
      exact sz_le hlen
theorem op_bin (o : Op) (l : Bool) : OpR X (binaryOp (opS o)) (rOp2 ca fun O x y T => binU O l o x y T) := by
  rintro pins s σ H x y v w Q I rx ry ⟨φ,G,O,T,u1,u2,sd,r1,r2,h⟩
  have h : Pc ca rU φ G O (binU O l o u1 u2 T) Q := h
  unfold binU at h
  split at h
  ·
    have := rp_int r1; have := rp_int r2; subst_vars
    split at h
    · rename_i hk
      exact op_int o pins s σ H _ _ v w Q I rx ry ⟨_,_,_,rfl,rfl,hk,Pc.now h sd (.d (.int _))⟩
    · exact h.elim
  ·
    have := rp_str r1; have := rp_str r2; subst_vars
    split at h
    · rename_i hz
      exact op_add_str pins s σ H _ _ v w Q I rx ry ⟨_,_,rfl,rfl,sz_le (sizeOk_le hz),Pc.now h sd (.d (.str _))⟩
    · exact h.elim
  ·
    split at h
    · rename_i h1 h2
      obtain ⟨a,vs,rfl,ha,ra⟩ := seqL_ok sd r1 h1
      obtain ⟨b,ws,rfl,hb,rb⟩ := seqL_ok sd r2 h2
      split at h
      · rename_i hz
        have hz := sizeOk_le hz
        rw [← ra.length,← rb.length] at hz
        exact op_catR pins s σ H _ _ v w Q I rx ry ⟨a,b,vs,ws,rfl,rfl,ha,hb,sz_le hz,fun p np => mkL_ok h sd (ra.append rb) np⟩
      · exact h.elim
    · split at h
      · rename_i h1 h2
        obtain ⟨a,vs,rfl,ga,ra⟩ := seqT_okG r1 h1
        obtain ⟨b,ws,rfl,gb,rb⟩ := seqT_okG r2 h2
        have ha := sd.ex _ _ ga
        have hb := sd.ex _ _ gb
        split at h
        · rename_i hz
          have hz := sizeOk_le hz
          rw [← ra.length,← rb.length] at hz
          refine op_catA pins s σ H _ _ v w Q I rx ry ⟨a,b,vs,ws,rfl,rfl,.inl (.inl ha),.inl (.inl hb),sz_le hz,fun e => ?_,fun _ e => ?_,fun _ _ p np => mkT_ok h sd (ra.append rb) np⟩
          · subst e
            cases ra
            exact Pc.now h sd (mkT_rp gb rb)
          · subst e
            cases rb
            rw [List.append_nil] at h
            exact Pc.now h sd (mkT_rp ga ra)
        · exact h.elim
      · exact h.elim
    · exact h.elim
  ·
    have := rp_str r1; have := rp_int r2; subst_vars
    split at h
    · rename_i hz
      simp only [Bool.and_eq_true,decide_eq_true_eq] at hz
      exact op_repS pins s σ H _ _ v w Q I rx ry ⟨_,_,rfl,rfl,hz.1.1.1,hz.1.1.2,hz.1.2,hz.2,Pc.now h sd (.d (.str _))⟩
    · exact h.elim
  ·
    have := rp_int r2; subst_vars
    split at h
    · rename_i h1
      obtain ⟨a,vs,rfl,ha,ra⟩ := seqL_ok sd r1 h1
      split at h
      · rename_i hz
        simp only [Bool.and_eq_true,decide_eq_true_eq] at hz
        have hz2 := sizeOk_le hz.2
        rw [← ra.length] at hz2
        exact op_repR pins s σ H _ _ v w Q I rx ry ⟨a,_,vs,rfl,rfl,ha,by omega,by omega,sz_le hz2,fun p np => mkL_ok h sd (ra.replicate _) np⟩
      · exact h.elim
    · split at h
      · rename_i us h1
        obtain ⟨a,vs,rfl,ga,ra⟩ := seqT_okG r1 h1
        have ha := sd.ex _ _ ga
        split at h
        · rename_i hz
          simp only [Bool.and_eq_true,decide_eq_true_eq,Bool.not_eq_true',List.isEmpty_eq_false_iff] at hz
          have hl := ra.length
          rename_i kk _ _ _ _ _ _
          by_cases h1 : kk = 1
          · subst h1
            have e1 : (List.replicate (1 : Int).toNat us).flatten = us := by simp
            rw [e1] at h
            exact op_rep1 pins s σ H _ _ v w Q I rx ry ⟨a,vs,rfl,rfl,.inl (.inl ha),Pc.now h sd (mkT_rp ga ra)⟩
          · exact op_repT pins s σ H _ _ v w Q I rx ry ⟨a,_,vs,rfl,rfl,.inl (.inl ha),fun e => hz.1.1.1 (by rw [e] at hl; exact List.length_eq_zero_iff.mp hl.symm),by omega,hz.1.2,by omega,fun p np => mkT_ok h sd (ra.replicate _) np⟩
        · exact h.elim
      · exact h.elim
  · exact h.elim
end
end Y
namespace Y
open PySem PySem.W PySem.Calls PyProof.Rows PyProof.V PySem.Spec
section
variable {prog : Program} {w : World} {K : Type} [DecidableEq K] {knd : HeapKind prog w K} {A : Around} {E : Value → Shared → Prop} {s : Shared}
inductive HitsH (prog : Program) (w : World) (A : Around) (s : Shared) (kb : List (K × Addr × Value)) : List (K × Addr × Value) → Bool → Prop
  | nil : HitsH prog w A s kb [] true
  | miss {k : K} {p : Addr × Value} {r : List (K × Addr × Value)} : atKey kb k = none → HitsH prog w A s kb ((k,p) :: r) false
  | hit {k : K} {p q : Addr × Value} {r : List (K × Addr × Value)} {e b : Bool} : atKey kb k = some q → SeqAt.EqP prog w A s p.2 q.2 e → HitsH prog w A s kb r b → HitsH prog w A s kb ((k,p) :: r) (e && b)
theorem HitsH.inv {kb : List (K × Addr × Value)} {k : K} {p : Addr × Value} {r : List (K × Addr × Value)} {b : Bool} (h : HitsH prog w A s kb ((k,p) :: r) b) :
    (atKey kb k = none ∧ b = false) ∨ ∃ q e b',atKey kb k = some q ∧ SeqAt.EqP prog w A s p.2 q.2 e ∧ HitsH prog w A s kb r b' ∧ b = (e && b') := by
  cases h with
  | miss hn => exact .inl ⟨hn,rfl⟩
  | hit hy he hr => exact .inr ⟨_,_,_,hy,he,hr,rfl⟩
theorem samePairsH {nm : String} {a b : Addr} {ka kb : List (K × Addr × Value)} {r : Bool} {Q : Bool → Shared → Prop} (hu : knd.room A) (ha : (a == sysModules) = false) (hb : (b == sysModules) = false)
    (da : s.heap.DictOfH knd a ka) (db : s.heap.DictOfH knd b kb) (hits : ka.length = kb.length → HitsH prog w A s kb ka r) (h : Q (ka.length == kb.length && r) s) :
    wpAny (model prog w) A (Builtin.Dict.samePairs nm a b) Q E s := by
  obtain ⟨oa,es,ep,hoa,_,hda,hea,hka,_⟩ := da
  obtain ⟨ob,es',ep',hob,_,hdb,heb,hkb,hnb⟩ := db
  have hla : ka.length = es.size := (size_of_entries hea).symm
  have hlb : kb.length = es'.size := (size_of_entries heb).symm
  rw [hla,hlb] at h
  unfold Builtin.Dict.samePairs Builtin.Dict.showsAll
  rw [if_neg (show ¬ (a == sysModules) = true by rw [ha]; exact Bool.false_ne_true),if_neg (show ¬ (b == sysModules) = true by rw [hb]; exact Bool.false_ne_true)]
  refine wpAny_bind (wpAny_pure (wpAny_bind (wpAny_pure ?_)))
  refine wpAny_bind (wpAny_dictEntries hoa hda ?_)
  dsimp only
  refine wpAny_bind (wpAny_dictEntries hob hdb ?_)
  by_cases hsz : es.size = es'.size
  case neg =>
    rw [if_pos (by simpa using hsz)]
    have hbf : (es.size == es'.size) = false := by simpa using hsz
    rw [hbf,Bool.false_and] at h
    exact wpAny_bind (wpAny_rule (wpAny_pure h))
  case pos =>
    have h' : Q r s := by simpa [hsz] using h
    have hits' := hits (by rw [hla,hlb]; exact hsz)
    rw [if_neg (by rw [hsz]; simp)]
    refine wpAny_bind (wpAny_dictEpoch hoa hda ?_)
    refine wpAny_bind ?_
    rw [Std.Legacy.Range.forIn_eq_forIn_range']
    simp only [Std.Legacy.Range.size,Nat.sub_zero,Nat.add_sub_cancel,Nat.div_one]
    refine wpAny_forIn_list _
      (fun rest q s' => s' = s ∧ q = (none,()) ∧ ∃ i,rest = List.range' i (es.size - i) ∧ i ≤ es.size ∧ HitsH prog w A s kb (ka.drop i) r)
      _ ?_ ?_ _ _ ⟨rfl,rfl,0,by simp,Nat.zero_le _,hits'⟩
    · rintro x rest q s' ⟨rfl,rfl,i,hr,hi,hpre⟩
      have hlt : i < es.size := by
        rcases Nat.lt_or_ge i es.size with h | h
        · exact h
        · rw [Nat.sub_eq_zero_of_le h] at hr; simp at hr
      obtain ⟨rfl,hrest⟩ : x = i ∧ rest = List.range' (i + 1) (es.size - (i + 1)) := by
        have e : es.size - i = (es.size - (i + 1)) + 1 := by omega
        rw [e,List.range'_succ] at hr
        injection hr with h1 h2
        exact ⟨h1,h2⟩
      refine wpAny_bind (wpAny_dictEntries hoa hda ?_)
      have hlt' : x < ka.length := by rw [hla]; exact hlt
      obtain ⟨k,p,hkv⟩ : ∃ k p,ka[x] = (k,p) := ⟨_,_,rfl⟩
      have hg : ka[x]? = some (k,p) := by rw [List.getElem?_eq_getElem hlt',hkv]
      have hdrop : ka.drop x = (k,p) :: ka.drop (x + 1) := by rw [← hkv]; exact List.drop_eq_getElem_cons hlt'
      have hex : es[x]? = some ⟨knd.hash k,.ref p.1,p.2⟩ := by rw [entry_at hea x,hg]; rfl
      have hkey : knd.is s'.heap k p.1 := hka (k,p) (List.mem_of_getElem? hg)
      rw [hdrop] at hpre
      rw [hex]
      show wpAny _ _ (holding [Value.ref p.1,p.2] _ >>= _) _ _ _
      refine wpAny_bind (wpAny_holding (wpAny_bind (wpAny_dictFind_heap hu hkey hob hdb heb hkb hnb (fun hno => ?_) fun j q hj => ?_)))
      · have hn : atKey kb k = none := atKey_none_of_get hno
        rcases hpre.inv with ⟨_,er⟩ | ⟨y,_,_,hy,_⟩
        · rw [er] at h'
          refine wpAny_pure ?_
          show wpAny _ _ (if (!false) = true then _ else _) _ _ _
          rw [if_pos (by decide)]
          exact wpAny_pure (wpAny_pure h')
        · rw [hn] at hy; exact nomatch hy
      · have hv' : atKey kb k = some q := atKey_of_get hnb hj
        refine wpAny_bind (wpAny_dictEntries hob hdb ?_)
        rw [entry_at heb j,hj]
        rcases hpre.inv with ⟨hn,_⟩ | ⟨y,e,b',hy,he,hrr,er⟩
        · rw [hv'] at hn; exact nomatch hn
        · have ey : q = y := Option.some.inj (hv'.symm.trans hy)
          subst ey
          refine wpAny_holding (he _ _ ?_)
          cases e with
          | false =>
            rw [er,Bool.false_and] at h'
            show wpAny _ _ (if (!false) = true then _ else _) _ _ _
            rw [if_pos (by decide)]
            exact wpAny_pure (wpAny_pure h')
          | true =>
            rw [Bool.true_and] at er
            rw [← er] at hrr
            show wpAny _ _ (if (!true) = true then _ else _) _ _ _
            rw [if_neg (by decide)]
            refine wpAny_bind (wpAny_dictEpoch hoa hda ?_)
            rw [if_neg (by simp)]
            exact wpAny_pure ⟨rfl,rfl,x + 1,hrest,hlt,hrr⟩
    · rintro q s' ⟨rfl,rfl,i,hr,hi,hpre⟩
      have hin : i = es.size := by
        rcases Nat.lt_or_ge i es.size with h | h
        · have e : es.size - i = (es.size - (i + 1)) + 1 := by omega
          rw [e,List.range'_succ] at hr; exact nomatch hr
        · exact Nat.le_antisymm hi h
      refine wpAny_pure ?_
      rw [hin,← hla,List.drop_length] at hpre
      cases hpre
      exact h'
theorem rcEqH {a b : Addr} {ka kb : List (K × Addr × Value)} {r : Bool} (hr : knd.room A.in1) (ha : (a == sysModules) = false) (hb : (b == sysModules) = false)
    (da : s.heap.DictOfH knd a ka) (db : s.heap.DictOfH knd b kb) (hu : A.units < cLine) (hits : ka.length = kb.length → HitsH prog w A.in1 s kb ka r) (E Q : Value → Shared → Prop) (h : Q (.bool (ka.length == kb.length && r)) s) : wpAny (model prog w) A (richCompare .Eq (.ref a) (.ref b)) Q E s := by
  refine wpAny_richCompare_same_room (op := .Eq) da.typeIs db.typeIs PySem.F.slot_dict_eq (wpAny_call_entry PySem.F.slot_dict_eq da.typeIs PySem.F.entry_dict_eq ?_ (PySem.F.args_dict_eq_2 _ _)) hu
  show wpAny _ _ (Builtin.Dict.dictSlotArgs "__eq__" ⟨[.ref a,.ref b],[]⟩ >>= _) _ _ s
  refine wpAny_bind ?_
  unfold Builtin.Dict.dictSlotArgs
  refine wpAny_bind (wpAny_notOrdered_dict da.typeIs ?_)
  show wpAny _ _ (pure (Value.ref a,Value.ref b)) _ _ s
  refine wpAny_pure ?_
  refine wpAny_bind (wpAny_isInstance (T := "dict") db.typeIs PySem.F.sub_dict_dict ?_)
  simp only [Bool.not_true,Bool.false_eq_true,if_false]
  refine wpAny_bind (wpAny_pure (wpAny_bind (wpAny_pure ?_)))
  refine wpAny_bind (samePairsH hr ha hb da db hits ?_)
  refine wpAny_pure ⟨_,rfl, ?_, ?_⟩
  · exact fun x => nomatch x
  · simpa using h
theorem rcNeH {a b : Addr} {ka kb : List (K × Addr × Value)} {r : Bool} (hr : knd.room A.in1) (ha : (a == sysModules) = false) (hb : (b == sysModules) = false)
    (da : s.heap.DictOfH knd a ka) (db : s.heap.DictOfH knd b kb) (hu : A.units < cLine) (hits : ka.length = kb.length → HitsH prog w A.in1 s kb ka r) (E Q : Value → Shared → Prop) (h : Q (.bool (!(ka.length == kb.length && r))) s) : wpAny (model prog w) A (richCompare .NotEq (.ref a) (.ref b)) Q E s := by
  refine wpAny_richCompare_same_room (op := .NotEq) da.typeIs db.typeIs PySem.F.slot_dict_ne (wpAny_call_entry PySem.F.slot_dict_ne da.typeIs PySem.F.entry_dict_ne ?_ (PySem.F.args_dict_ne_2 _ _)) hu
  show wpAny _ _ (Builtin.Dict.dictSlotArgs "__ne__" ⟨[.ref a,.ref b],[]⟩ >>= _) _ _ s
  refine wpAny_bind ?_
  unfold Builtin.Dict.dictSlotArgs
  refine wpAny_bind (wpAny_notOrdered_dict da.typeIs ?_)
  show wpAny _ _ (pure (Value.ref a,Value.ref b)) _ _ s
  refine wpAny_pure ?_
  refine wpAny_bind (wpAny_isInstance (T := "dict") db.typeIs PySem.F.sub_dict_dict ?_)
  simp only [Bool.not_true,Bool.false_eq_true,if_false]
  refine wpAny_bind (wpAny_pure (wpAny_bind (wpAny_pure ?_)))
  refine wpAny_bind (samePairsH hr ha hb da db hits ?_)
  refine wpAny_pure ⟨_,rfl, ?_, ?_⟩
  · exact fun x => nomatch x
  · simpa using h
end
end Y
namespace Y
open PySem PySem.Spec L2
section
variable {ca : Nat → Addr} {φ φ' : List Addr} {G G' H : Hp} {O T : Cs} {X : Cx} {K : PySem.W.Frag}
mutual
theorem toD_ok (s : Sd ca φ G H (O ++ T)) : ∀ (n : Nat) (u : U) (v : V) (d : D),RpU G φ v u → toD O T n u = some d → d.canLay0 = true → Dp K H v d
  | n,.d x,v,d,r,e,c => by
    rw [toD_d] at e
    cases e
    cases r with
    | d r => exact Rp.dp s.ex _ _ r c
  | n,.tup us,v,d,r,e,c => by
    rw [toD_tup,Option.map_eq_some_iff] at e
    obtain ⟨ds,e,rfl⟩ := e
    cases r with
    | tup h1 h2 => exact .tup (.inl (.inl (s.ex _ _ h1))) (toDs_ok s n us _ ds h2 e (by simpa [PyData.canLay0] using c))
  | 0,.ref i,v,d,r,e,_ => by
    rw [toD_ref0] at e
    cases e
  | n + 1,.ref i,v,d,r,e,c => by
    rw [toD_refS] at e
    cases r with
    | ref hi =>
      split at e
      · rename_i hc
        cases e
        obtain ⟨vs,h1,h2⟩ := cell_at s hi hc
        exact .lst (.inl (.inl h1)) (Rps.dp s.ex _ _ h2 (by simpa [PyData.canLay0] using c))
      · rename_i us hc
        rw [Option.map_eq_some_iff] at e
        obtain ⟨ds,e,rfl⟩ := e
        obtain ⟨vs,h1,h2⟩ := cell_at s hi hc
        exact .lst (.inl (.inl h1)) (toDs_ok s n us _ ds h2 e (by simpa [PyData.canLay0] using c))
      · cases e
termination_by n u => (n,sizeOf u)
theorem toDs_ok (s : Sd ca φ G H (O ++ T)) : ∀ (n : Nat) (us : List U) (vs : List V) (ds : List D),RpUs G φ vs us → toDs O T n us = some ds → PyData.canLayAll0 ds = true → DpAll K H vs ds
  | n,[],vs,ds,r,e,_ => by
    rw [toDs_nil] at e
    cases e
    cases r
    exact .nil
  | n,u :: us,vs,ds,r,e,c => by
    rw [toDs_cons] at e
    cases r with
    | cons r1 r2 =>
      split at e
      · rename_i x hx
        rw [Option.map_eq_some_iff] at e
        obtain ⟨ds,e,rfl⟩ := e
        have c : x.canLay0 = true ∧ PyData.canLayAll0 ds = true := by simpa [PyData.canLayAll0] using c
        exact .cons (toD_ok s n u _ _ r1 hx c.1) (toDs_ok s n us _ _ r2 e c.2)
      · cases e
termination_by n us => (n,sizeOf us)
end
theorem RpK.val : ∀ {ws : List (List Key × V)} {kvs : List (Ky × U)} (k : Ky),RpK G φ ws kvs → (lookK kvs k = none ∧ valV ws k = none) ∨ ∃ u v,lookK kvs k = some u ∧ valV ws k = some v ∧ RpU G φ v u
  | _,_,k,.nil => .inl ⟨rfl,rfl⟩
  | _,_,k,.cons (k := k') (ws := ws) (kvs := kvs) h t => by
    unfold lookK valV
    by_cases e : k' = k
    · rw [List.find?_cons_of_pos (by simpa using e),List.find?_cons_of_pos (by simpa using e)]
      exact .inr ⟨_,_,rfl,rfl,h⟩
    · rw [List.find?_cons_of_neg (by simpa using e),List.find?_cons_of_neg (by simpa using e)]
      exact RpK.val k t
theorem RpK.length : ∀ {ws : List (List Key × V)} {kvs : List (Ky × U)},RpK G φ ws kvs → ws.length = kvs.length
  | _,_,.nil => rfl
  | _,_,.cons _ t => by simp [RpK.length t]
theorem dictOf_ok (s : Sd ca φ G H (O ++ T)) {u : U} {v : V} {kvs : List (Ky × U)} (r : RpU G φ v u) (e : dictOf O T u = some kvs) : ∃ a ws,v = .ref a ∧ Rd H a (.dT ws) ∧ RpK G φ ws kvs := by
  unfold dictOf at e
  split at e
  · cases r with
    | ref hi =>
      split at e
      · rename_i hc
        cases e
        obtain ⟨ws,h1,h2⟩ := cell_at s hi hc
        exact ⟨_,ws,rfl,.inl h1,h2⟩
      · rename_i hc
        cases e
        obtain ⟨ws,h1,h2⟩ := cell_at s hi hc
        exact ⟨_,ws,rfl,.inl h1,h2⟩
      · rename_i hc
        cases e
        obtain ⟨od,ws,h1,h2⟩ := cell_at s hi hc
        exact ⟨_,ws,rfl,.inr ⟨od,s.ex _ _ h1⟩,h2⟩
      · cases e
  · cases e
theorem keysOf_ok : ∀ {ds : List D} {vs : List V} {k : Ky},Rps G vs ds → keysOf ds = some k → vs = k.map kV
  | [],_,k,h,e => by cases h; simp [keysOf] at e; subst e; rfl
  | d :: ds,_,k,h,e => by
    cases h with
    | cons h1 h2 =>
      unfold keysOf at e
      split at e
      · rename_i q qs e1 e2
        cases e
        rw [keysOf_ok h2 e2]
        unfold keyOf1 at e1
        split at e1
        · cases e1; cases h1; rfl
        · cases e1; cases h1; rfl
        · cases e1
      · cases e
theorem keyU_ok (s : Sd ca φ G H (O ++ T)) {u : U} {v : V} {k : Ky} (r : RpU G φ v u) (e : keyU u = some k) : ∃ b,v = .ref b ∧ H b = some (.tup (k.map kV)) := by
  unfold keyU at e
  split at e
  · cases r with
    | d r =>
      cases r with
      | tup h1 h2 =>
        rw [← keysOf_ok h2 e]
        exact ⟨_,rfl,s.ex _ _ h1⟩
  · cases e
def copS : COp → CmpOp
  | .eq => .Eq | .ne => .NotEq | .lt => .Lt | .le => .LtE | .gt => .Gt | .ge => .GtE | .is => .Is | .isnot => .IsNot | .isin => .In | .notin => .NotIn
theorem isNone_iff {u : U} {v : V} (r : RpU G φ v u) : isNone u = decide (v = .non) := by
  cases r with
  | d r => cases r <;> rfl
  | ref _ => rfl
  | tup _ _ => rfl
theorem flat_ok {d : D} {v : V} (r : Rp G v d) (h : cmpU.flat d = true) : flatV v = true := by
  cases r <;> first | rfl | exact absurd h (by simp [cmpU.flat])
theorem flat_eqv {d e : D} {v w : V} (r : Rp G v d) (r' : Rp G w e) (h : cmpU.flat d = true) (h' : cmpU.flat e = true) : eqV v w = PyData.eqv d e := by
  cases r <;> cases r' <;> first | rfl | (simp [cmpU.flat] at h; done) | (simp [cmpU.flat] at h'; done) | (unfold PyData.eqv; rfl)
theorem flat_any {d : D} {v : V} (r : Rp G v d) (h : cmpU.flat d = true) : ∀ {ds : List D} {vs : List V},Rps G vs ds → ds.all cmpU.flat = true → vs.all flatV = true ∧ inV v vs = ds.any fun z => PyData.eqv z d
  | [],_,q,_ => by cases q; exact ⟨rfl,rfl⟩
  | e :: ds,_,q,hq => by
    cases q with
    | cons q1 q2 =>
      simp only [List.all_cons,Bool.and_eq_true] at hq
      obtain ⟨a1,a2⟩ := flat_any r h q2 hq.2
      refine ⟨by simp [flat_ok q1 hq.1,a1], ?_⟩
      unfold inV at a2 ⊢
      simp only [List.any_cons,a2,flat_eqv q1 r hq.1 h]
theorem isin_ok (neg : Bool) (hu : X.A.units + 65 < cLine) {pins : List (Addr × Obj)} {s : Shared} {σ : L2.St} {x y : V} {v w : Value} {Q : VK} (I : L2.Inv X pins σ H s) (rx : RelV x v) (ry : RelV y w) (sd : Sd ca φ G H (O ++ T)) {u1 u2 : U} (r1 : RpU G φ x u1) (r2 : RpU G φ y u2) {k : Bool}
    (e : cmpU.isinU O u1 u2 T = some k) (q : Q (.bl (if neg then !k else k)) H) : wpAny (model X.prog X.w) X.A (compareOp (if neg then .NotIn else .In) v w) (EP X pins σ Q) X.xe s := by
  unfold cmpU.isinU at e
  split at e
  · rename_i kvs hd
    obtain ⟨a,ws,rfl,ha,hk⟩ := dictOf_ok sd r2 hd
    obtain rfl : w = Value.ref a := ry
    split at e
    · rename_i key hkey
      obtain ⟨b,rfl,hb⟩ := keyU_ok sd r1 hkey
      have g : DGet H a (.ref b) (valV ws key) := .inr ⟨ws,key,b,ha,rfl,hb,rfl⟩
      have hs : (valV ws key).isSome = k := by
        rcases hk.val key with ⟨e1,e2⟩ | ⟨_,_,e1,e2,_⟩ <;> rw [e1] at e <;> rw [e2] <;> cases e <;> rfl
      cases neg with
      | false => exact d_in (by omega) I g rx fun s' I' => ⟨.bl _,H,I',rfl,by rw [hs]; exact q⟩
      | true => exact d_notIn (by omega) I g rx fun s' I' => ⟨.bl _,H,I',rfl,by rw [hs]; exact q⟩
    · cases e
  · split at e
    · rename_i c z
      have := rp_str r1; have := rp_str r2; subst_vars
      split at e
      · rename_i kk
        cases e
        cases neg with
        | false => exact op_in_sign pins s σ H _ _ v w Q I rx ry ⟨kk,_,rfl,rfl,q⟩
        | true => exact op_notIn_sign pins s σ H _ _ v w Q I rx ry ⟨kk,_,rfl,rfl,q⟩
      · cases e
    · rename_i a ds
      split at e
      · rename_i hs
        cases e
        simp only [Bool.and_eq_true] at hs
        cases r1 with
        | d r1 =>
          cases r2 with
          | d r2 =>
            cases r2 with
            | tup g1 g2 =>
              obtain ⟨b1,b2⟩ := flat_any r1 hs.1 g2 hs.2
              cases neg with
              | false => exact op_in_seq pins s σ H _ _ v w Q I rx ry ⟨_,_,rfl,.inr (.inl (.inl (sd.ex _ _ g1))),flat_ok r1 hs.1,b1,by rw [b2]; exact q⟩
              | true => exact op_notIn_seq pins s σ H _ _ v w Q I rx ry ⟨_,_,rfl,.inr (.inl (.inl (sd.ex _ _ g1))),flat_ok r1 hs.1,b1,by rw [b2]; exact q⟩
      · cases e
    · rename_i c kvs _
      obtain ⟨zs,hz,rfl⟩ := Option.map_eq_some_iff.mp e
      have := rp_str r1; subst_vars
      cases r2 with
      | d r2 =>
        cases r2 with
        | ntx g1 g2 g3 =>
          rw [g1] at hz
          cases hz
          have hf : (zs.map PyData.str).all cmpU.flat = true := by
            rw [List.all_eq_true]
            intro d hd
            obtain ⟨z,_,rfl⟩ := List.mem_map.mp hd
            rfl
          obtain ⟨b1,b2⟩ := flat_any (G := G) (Rp.str c) rfl (rps_str (G := G) zs) hf
          have b3 : ((zs.map PyData.str).any fun z => PyData.eqv z (.str c)) = decide (c ∈ zs) := by
            rw [Bool.eq_iff_iff,List.any_eq_true,decide_eq_true_eq]
            constructor
            · rintro ⟨z,hz,e⟩
              obtain ⟨f,hf,rfl⟩ := List.mem_map.mp hz
              have e : (f == c) = true := e
              rw [← eq_of_beq e]; exact hf
            · intro h
              exact ⟨.str c,List.mem_map_of_mem h,by show (c == c) = true; simp⟩
          cases neg with
          | false => exact op_in_seq pins s σ H _ _ v w Q I rx ry ⟨_,_,rfl,.inr (.inl (.inr ⟨_,sd.ex _ _ g2⟩)),rfl,b1,by rw [b2,b3]; exact q⟩
          | true => exact op_notIn_seq pins s σ H _ _ v w Q I rx ry ⟨_,_,rfl,.inr (.inl (.inr ⟨_,sd.ex _ _ g2⟩)),rfl,b1,by rw [b2,b3]; exact q⟩
    · split at e
      · rename_i a ds h1 h2
        split at e
        · rename_i hs
          cases e
          simp only [Bool.and_eq_true] at hs
          have d1 := toD_ok (K := X.K) sd 3 _ x a r1 h1 (SeqAt.canLay_of_shaped hs.1)
          have d2 := toD_ok (K := X.K) sd 3 _ y _ r2 h2 (SeqAt.canLay_of_shaped hs.2)
          cases neg with
          | false => exact op_inD hu pins s σ H _ _ v w Q I rx ry ⟨a,ds,d1,d2,hs.1,hs.2,q⟩
          | true => exact op_notInD hu pins s σ H _ _ v w Q I rx ry ⟨a,ds,d1,d2,hs.1,hs.2,q⟩
        · cases e
      · cases e
theorem intKs_len : ∀ {kvs : List (Ky × U)} {as : List (Ky × Int)},intKs kvs = some as → as.length = kvs.length
  | [],_,h => by cases h; rfl
  | (k,.d (.int i)) :: r,as,h => by
    unfold intKs at h
    obtain ⟨bs,e,rfl⟩ := Option.map_eq_some_iff.mp h
    simp [intKs_len e]
  | (_,.d .none) :: _,_,h => by cases h
  | (_,.d (.bool _)) :: _,_,h => by cases h
  | (_,.d (.str _)) :: _,_,h => by cases h
  | (_,.d (.list _)) :: _,_,h => by cases h
  | (_,.d (.tuple _)) :: _,_,h => by cases h
  | (_,.d (.dict _)) :: _,_,h => by cases h
  | (_,.ref _) :: _,_,h => by cases h
  | (_,.tup _) :: _,_,h => by cases h
theorem intKs_look : ∀ {kvs : List (Ky × U)} {as : List (Ky × Int)},intKs kvs = some as → ∀ k,lookK kvs k = (lookK as k).map fun i => .d (.int i)
  | [],_,h,k => by cases h; rfl
  | (k',.d (.int i)) :: r,as,h,k => by
    unfold intKs at h
    obtain ⟨bs,e,rfl⟩ := Option.map_eq_some_iff.mp h
    have ih := intKs_look e k
    unfold lookK at ih ⊢
    by_cases q : k' = k
    · simp [List.find?_cons,q]
    · simpa [List.find?_cons,q] using ih
  | (_,.d .none) :: _,_,h,_ => by cases h
  | (_,.d (.bool _)) :: _,_,h,_ => by cases h
  | (_,.d (.str _)) :: _,_,h,_ => by cases h
  | (_,.d (.list _)) :: _,_,h,_ => by cases h
  | (_,.d (.tuple _)) :: _,_,h,_ => by cases h
  | (_,.d (.dict _)) :: _,_,h,_ => by cases h
  | (_,.ref _) :: _,_,h,_ => by cases h
  | (_,.tup _) :: _,_,h,_ => by cases h
theorem hits_ints {P : Program} {w : World} {A : Around} {s : Shared} {zs : List (List Key × V)} {kvs' : List (Ky × U)} {bs : List (Ky × Int)} {xs' : List (List Key × Addr × Value)} (rel' : KT H zs xs') (rk' : RpK G φ zs kvs') (hb : intKs kvs' = some bs) :
    ∀ {ws : List (List Key × V)} {kvs : List (Ky × U)} {as : List (Ky × Int)} {xs : List (List Key × Addr × Value)},KT H ws xs → RpK G φ ws kvs → intKs kvs = some as → HitsH P w A s xs' xs (as.all fun p => decide (lookK bs p.1 = some p.2))
  | _,[],_,_,.nil,.nil,h => by cases h; exact .nil
  | _,(k,.d (.int i)) :: r,as,q :: xs,.cons hq t,.cons hu hk,h => by
    unfold intKs at h
    obtain ⟨cs,e,rfl⟩ := Option.map_eq_some_iff.mp h
    have ih := hits_ints (P := P) (w := w) (A := A) (s := s) rel' rk' hb t hk e
    obtain ⟨k0,p0⟩ := q
    obtain ⟨h1,h2,h3⟩ := hq
    have h1 : k = k0 := h1
    subst h1
    have hi := rp_int hu
    subst hi
    obtain ⟨t1,e1⟩ : ∃ t,p0.2 = Value.int i t := h3
    have hv := rel'.val k
    have hl := intKs_look hb k
    rw [List.all_cons]
    rcases rk'.val k with ⟨e2,e3⟩ | ⟨u,v,e2,e3,e4⟩
    · rw [e3] at hv
      have hn : atKey xs' k = none := by
        cases q : atKey xs' k with
        | none => rfl
        | some z => rw [q] at hv; exact absurd hv id
      rw [e2] at hl
      have hn2 : lookK bs k = none := by
        cases q : lookK bs k with
        | none => rfl
        | some z => rw [q] at hl; cases hl
      have : decide (lookK bs k = some i) = false := by simp [hn2]
      simp only [this,Bool.false_and]
      exact .miss hn
    · rw [e3] at hv
      rw [e2] at hl
      cases q : lookK bs k with
      | none => rw [q] at hl; cases hl
      | some j =>
        rw [q] at hl
        cases hl
        have hj := rp_int e4
        subst hj
        cases q2 : atKey xs' k with
        | none => rw [q2] at hv; exact absurd hv id
        | some z =>
          rw [q2] at hv
          obtain ⟨t2,e5⟩ : ∃ t,z.2 = Value.int j t := hv
          have hd : decide ((some j : Option Int) = some i) = decide (i = j) := by
            by_cases ij : i = j
            · simp [ij]
            · have : ¬ j = i := fun h => ij h.symm
              simp [ij,this]
          rw [hd]
          refine .hit q2 ?_ ih
          rw [e1,e5]
          exact (SeqAt.EqAt.int_int i t1 j t2).eqP
  | _,(_,.d (.int _)) :: _,_,[],h1,h2,_ => by
    cases h2
    have h1 : Paired _ _ _ := h1
    cases h1
  | _,(_,.d .none) :: _,_,_,_,_,h => by cases h
  | _,(_,.d (.bool _)) :: _,_,_,_,_,h => by cases h
  | _,(_,.d (.str _)) :: _,_,_,_,_,h => by cases h
  | _,(_,.d (.list _)) :: _,_,_,_,_,h => by cases h
  | _,(_,.d (.tuple _)) :: _,_,_,_,_,h => by cases h
  | _,(_,.d (.dict _)) :: _,_,_,_,_,h => by cases h
  | _,(_,.ref _) :: _,_,_,_,_,h => by cases h
  | _,(_,.tup _) :: _,_,_,_,_,h => by cases h
theorem op_dct (hu : X.A.units + 65 < cLine) {u1 u2 : U} {x y : V} {v w : Value} {k : Bool} {pins : List (Addr × Obj)} {s : Shared} {σ : L2.St} {Q : VK} (I : Inv X pins σ H s) (sd : Sd ca φ G H (O ++ T)) (r1 : RpU G φ x u1) (r2 : RpU G φ y u2) (rx : RelV x v) (ry : RelV y w) (e : eqDU O T u1 u2 = some k) :
    (Q (.bl k) H → wpAny (model X.prog X.w) X.A (compareOp .Eq v w) (EP X pins σ Q) X.xe s) ∧ (Q (.bl (!k)) H → wpAny (model X.prog X.w) X.A (compareOp .NotEq v w) (EP X pins σ Q) X.xe s) := by
  unfold eqDU at e
  split at e
  · rename_i kvs kvs' h1 h2
    split at e
    · rename_i as bs g1 g2
      cases e
      obtain ⟨a,ws,rfl,ha,ka⟩ := dictOf_ok sd r1 h1
      obtain ⟨b,zs,rfl,hb,kb⟩ := dictOf_ok sd r2 h2
      obtain rfl : v = Value.ref a := rx
      obtain rfl : w = Value.ref b := ry
      obtain ⟨_,na,xs,ra,da⟩ := dt_rd I.hok ha
      obtain ⟨_,nb,ys,rb,db⟩ := dt_rd I.hok hb
      have hits := hits_ints (P := X.prog) (w := X.w) (A := X.A.in1) (s := s) rb kb g2 ra ka g1
      have hl : (xs.length == ys.length && as.all fun p => decide (lookK bs p.1 = some p.2)) = eqDct as bs := by
        have q1 := Paired.length ra
        have q2 := Paired.length rb
        have q3 := ka.length
        have q4 := kb.length
        have q5 := intKs_len g1
        have q6 := intKs_len g2
        unfold eqDct
        congr 1
        rw [← q1,← q2,q3,q4,← q5,← q6]
        by_cases z : as.length = bs.length <;> simp [z]
      refine ⟨fun q => rcEqH (tupleKind_room_in1 (by omega)) na nb da db (by omega) (fun _ => hits) _ _ ?_,fun q => rcNeH (tupleKind_room_in1 (by omega)) na nb da db (by omega) (fun _ => hits) _ _ ?_⟩
      · rw [hl]; exact ⟨.bl _,H,I,rfl,q⟩
      · rw [hl]; exact ⟨.bl _,H,I,rfl,q⟩
    · cases e
  · cases e
theorem dct_eqP {A : Around} (hu : A.units + 2 < cLine) {i j : Nat} (hij : i ≠ j) {x y : V} {v w : Value} {k : Bool} {pins : List (Addr × Obj)} {s : Shared} {σ : L2.St} (I : Inv X pins σ H s) (sd : Sd ca φ G H (O ++ T)) (r1 : RpU G φ x (.ref i)) (r2 : RpU G φ y (.ref j)) (rx : RelV x v) (ry : RelV y w) (e : eqDU O T (.ref i) (.ref j) = some k) : SeqAt.EqIn X.prog X.w A s v w k := by
  unfold eqDU at e
  split at e
  · rename_i kvs kvs' h1 h2
    split at e
    · rename_i as bs g1 g2
      cases e
      obtain ⟨a,ws,rfl,ha,ka⟩ := dictOf_ok sd r1 h1
      obtain ⟨b,zs,rfl,hb,kb⟩ := dictOf_ok sd r2 h2
      obtain rfl : v = Value.ref a := rx
      obtain rfl : w = Value.ref b := ry
      obtain ⟨_,na,xs,ra,da⟩ := dt_rd I.hok ha
      obtain ⟨_,nb,ys,rb,db⟩ := dt_rd I.hok hb
      have hits := hits_ints (P := X.prog) (w := X.w) (A := A.in1) (s := s) rb kb g2 ra ka g1
      have hl : (xs.length == ys.length && as.all fun p => decide (lookK bs p.1 = some p.2)) = eqDct as bs := by
        have q1 := Paired.length ra
        have q2 := Paired.length rb
        have q3 := ka.length
        have q4 := kb.length
        have q5 := intKs_len g1
        have q6 := intKs_len g2
        unfold eqDct
        congr 1
        rw [← q1,← q2,q3,q4,← q5,← q6]
        by_cases z : as.length = bs.length <;> simp [z]
      have hne : a ≠ b := by
        intro hab
        subst hab
        cases r1 with
        | ref hi => cases r2 with
          | ref hj => exact hij ((List.getElem?_inj (List.getElem?_eq_some_iff.mp hi).1 sd.nd).mp (hi.trans hj.symm))
      refine SeqAt.EqIn.of_refs hne fun E Q hq => rcEqH (tupleKind_room_in1 (by omega)) na nb da db (by omega) (fun _ => hits) _ _ ?_
      rw [hl]
      exact hq
    · cases e
  · cases e
theorem op_tup (hu : X.A.units + 65 < cLine) {u1 u2 : U} {x y : V} {v w : Value} {k : Bool} {pins : List (Addr × Obj)} {s : Shared} {σ : L2.St} {Q : VK} (I : Inv X pins σ H s) (sd : Sd ca φ G H (O ++ T)) (r1 : RpU G φ x u1) (r2 : RpU G φ y u2) (rx : RelV x v) (ry : RelV y w) (e : eqTU O T u1 u2 = some k) (q : Q (.bl k) H) :
    wpAny (model X.prog X.w) X.A (compareOp .Eq v w) (EP X pins σ Q) X.xe s := by
  unfold eqTU at e
  split at e
  · rename_i i j i' j'
    split at e
    · rename_i hne
      split at e
      · rename_i b1 b2 e1 e2
        cases e
        cases r1 with
        | @tup a _ _ ga hs1 => cases r2 with
          | @tup b _ _ gb hs2 =>
            cases hs1 with
            | cons p1 t1 => cases t1 with
              | cons p2 t2 => cases t2 with
                | nil => cases hs2 with
                  | cons p3 t3 => cases t3 with
                    | cons p4 t4 => cases t4 with
                      | nil =>
                        obtain rfl : v = Value.ref a := rx
                        obtain rfl : w = Value.ref b := ry
                        obtain ⟨its1,rv1,pl1,_⟩ := I.tuple (.inl (.inl (sd.ex _ _ ga)))
                        obtain ⟨its2,rv2,pl2,_⟩ := I.tuple (.inl (.inl (sd.ex _ _ gb)))
                        cases rv1 with
                        | cons a1 r1 => cases r1 with
                          | cons a2 r1 => cases r1 with
                            | nil => cases rv2 with
                              | cons a3 r2 => cases r2 with
                                | cons a4 r2 => cases r2 with
                                  | nil =>
                                    refine SeqAt.rcIn_tuples (e := fun j => match j with | 0 => b1 | _ => b2) pl1 pl2 (by omega) ?_ ?_
                                    · intro j h1 h2
                                      match j,h1,h2 with
                                      | 0,_,_ => exact dct_eqP (A := X.A.in1) (by show X.A.units + 1 + 2 < cLine; omega) hne.1 I sd p1 p3 a1 a3 e1
                                      | 1,_,_ => exact dct_eqP (A := X.A.in1) (by show X.A.units + 1 + 2 < cLine; omega) hne.2 I sd p2 p4 a2 a4 e2
                                    · exact ⟨.bl _,H,I,rfl,by simpa [List.range_succ] using q⟩
      · cases e
    · cases e
  · exact (op_dct hu I sd r1 r2 rx ry e).1 q
theorem op_cmp (o : COp) (hu : X.A.units + 65 < cLine) : OpR X (compareOp (copS o)) (rOp2 ca (cmpR o)) := by
  rintro pins s σ H x y v w Q I rx ry ⟨φ,G,O,T,u1,u2,sd,r1,r2,h⟩
  have h : Pc ca rU φ G O (match cmpU O o u1 u2 T with | some k => .ok (.d (.bool k)) T | none => .fail) Q := h
  cases e : cmpU O o u1 u2 T with
  | none => rw [e] at h; exact h.elim
  | some k =>
    rw [e] at h
    have q : Q (.bl k) H := Pc.now h sd (.d (.bl _))
    clear h
    unfold cmpU at e
    cases o with
    | eq =>
      simp only at e
      split at e
      · rename_i a b h1 h2
        split at e
        · rename_i hs
          cases e
          simp only [Bool.and_eq_true] at hs
          exact op_eqD (by omega) pins s σ H _ _ v w Q I rx ry ⟨a,b,toD_ok (K := X.K) sd 3 _ x a r1 h1 (SeqAt.canLay_of_shaped hs.1),toD_ok (K := X.K) sd 3 _ y b r2 h2 (SeqAt.canLay_of_shaped hs.2),hs.1,hs.2,q⟩
        · cases e
      · exact op_tup hu I sd r1 r2 rx ry e q
      · cases e
    | ne =>
      simp only at e
      split at e
      · rename_i a b h1 h2
        split at e
        · rename_i hs
          cases e
          simp only [Bool.and_eq_true] at hs
          exact op_neD (by omega) pins s σ H _ _ v w Q I rx ry ⟨a,b,toD_ok (K := X.K) sd 3 _ x a r1 h1 (SeqAt.canLay_of_shaped hs.1),toD_ok (K := X.K) sd 3 _ y b r2 h2 (SeqAt.canLay_of_shaped hs.2),hs.1,hs.2,q⟩
        · cases e
      · rename_i h1 h2
        split at e
        · rename_i i
          split at e
          · rename_i w0 ws hc
            cases e
            cases r1 with
            | ref hi =>
              obtain ⟨vs,g1,g2⟩ := cell_at sd hi hc
              have d2 := toD_ok (K := X.K) sd 3 _ y _ r2 h2 rfl
              cases d2 with
              | lst hs ha =>
                cases ha
                cases rx
                cases ry
                obtain ⟨its,rv,pl,_⟩ := I.list (.inl (.inl g1))
                obtain ⟨its2,rv2,pl2,_⟩ := I.list hs
                have e1 : its2.length = 0 := rv2.length.symm
                have e2 : its.length ≠ 0 := by
                  have := rv.length
                  have := g2.length
                  simp at this
                  omega
                exact PySem.SeqAt.RcNeAt.lists_lengths pl.isList pl2.isList (by simp [e1,e2]) (by omega) X.prog X.w X.xe _ ⟨.bl true,H,I,rfl,q⟩
          · cases e
        · cases e
      · obtain ⟨k',e',rfl⟩ := Option.map_eq_some_iff.mp e
        exact (op_dct hu I sd r1 r2 rx ry e').2 q
      · cases e
    | is =>
      simp only at e
      split at e
      · rename_i hn
        cases e
        rw [isNone_iff r2,decide_eq_true_eq] at hn
        rw [isNone_iff r1] at q
        exact op_isN pins s σ H _ _ v w Q I rx ry ⟨hn,q⟩
      · split at e
        · cases e
          have e1 := rp_bl r1
          have e2 := rp_bl r2
          rw [e1] at rx
          rw [e2] at ry
          exact op_is_bl pins s σ H _ _ _ _ Q I rx ry ⟨_,_,rfl,rfl,q⟩
        · cases e
    | isnot =>
      simp only at e
      split at e
      · rename_i hn
        cases e
        rw [isNone_iff r2,decide_eq_true_eq] at hn
        rw [isNone_iff r1] at q
        exact op_notN pins s σ H _ _ v w Q I rx ry ⟨hn,q⟩
      · split at e
        · cases e
          have e1 := rp_bl r1
          have e2 := rp_bl r2
          rw [e1] at rx
          rw [e2] at ry
          exact op_isnot_bl pins s σ H _ _ _ _ Q I rx ry ⟨_,_,rfl,rfl,q⟩
        · cases e
    | lt =>
      simp only at e
      split at e
      · cases e
        have := rp_int r1; have := rp_int r2; subst_vars
        exact op_lt pins s σ H _ _ v w Q I rx ry ⟨_,_,rfl,rfl,q⟩
      · rename_i a b c d
        cases e
        cases r1 with
        | d r1 =>
          cases r1 with
          | tup g1 g2 =>
            cases r2 with
            | d r2 =>
              cases r2 with
              | tup k1 k2 =>
                cases g2 with
                | cons g2 g3 =>
                  cases g2
                  cases g3 with
                  | cons g3 g4 =>
                    cases g3
                    cases g4
                    cases k2 with
                    | cons k2 k3 =>
                      cases k2
                      cases k3 with
                      | cons k3 k4 =>
                        cases k3
                        cases k4
                        refine op_ltT (by omega) pins s σ H _ _ v w Q I rx ry ⟨_,_,[a,b],[c,d],rfl,rfl,.inl (.inl (sd.ex _ _ g1)),.inl (.inl (sd.ex _ _ k1)), ?_⟩
                        have e : HT.lexLt [a,b] [c,d] = decide (a < c ∨ a = c ∧ b < d) := by
                          simp only [HT.lexLt]
                          by_cases h1 : a < c
                          · have h2 : a ≠ c := by omega
                            simp [h1,h2]
                          · by_cases h2 : a = c
                            · subst h2
                              by_cases h3 : b < d
                              · have h4 : b ≠ d := by omega
                                simp [h3,h4]
                              · simp [h3]
                            · simp [h1,h2]
                        rw [e]
                        exact q
      · cases e
    | le =>
      simp only at e
      split at e
      · cases e
        have := rp_int r1; have := rp_int r2; subst_vars
        exact op_le pins s σ H _ _ v w Q I rx ry ⟨_,_,rfl,rfl,q⟩
      · cases e
    | gt =>
      simp only at e
      split at e
      · cases e
        have := rp_int r1; have := rp_int r2; subst_vars
        exact op_gt pins s σ H _ _ v w Q I rx ry ⟨_,_,rfl,rfl,q⟩
      · cases e
    | ge =>
      simp only at e
      split at e
      · cases e
        have := rp_int r1; have := rp_int r2; subst_vars
        exact op_ge pins s σ H _ _ v w Q I rx ry ⟨_,_,rfl,rfl,q⟩
      · cases e
    | isin => exact isin_ok false hu I rx ry sd r1 r2 e q
    | notin =>
      simp only at e
      rw [Option.map_eq_some_iff] at e
      obtain ⟨k',e,rfl⟩ := e
      exact isin_ok true hu I rx ry sd r1 r2 e q
theorem atI_rp {ds : List D} {vs : List V} {i : Int} {x : D} (r : Rps G vs ds) (e : L2.atI ds i = some x) : ∃ v,L2.atI vs i = some v ∧ Rp G v x := by
  unfold L2.atI at e ⊢
  rw [r.length]
  cases q : ixN ds.length i with
  | none => rw [q] at e; cases e
  | some j => rw [q] at e; exact r.get e
theorem atI_rpU {ds : List U} {vs : List V} {i : Int} {x : U} (r : RpUs G φ vs ds) (e : L2.atI ds i = some x) : ∃ v,L2.atI vs i = some v ∧ RpU G φ v x := by
  unfold L2.atI at e ⊢
  rw [r.length]
  cases q : ixN ds.length i with
  | none => rw [q] at e; cases e
  | some j => rw [q] at e; exact r.get e
theorem ix_any (hu : X.A.units + 65 < cLine) : IxR X (rOp2 ca fun O x y T => R.ofO T (ixU O x y T)) := by
  rintro value slice pins s σ H x y v w Q I rx ry ⟨φ,G,O,T,u1,u2,sd,r1,r2,h⟩ hs
  have h : Pc ca rU φ G O (R.ofO T (ixU O u1 u2 T)) Q := h
  cases e : ixU O u1 u2 T with
  | none => rw [e] at h; exact h.elim
  | some z =>
    rw [e] at h
    have q : ∀ z',RpU G φ z' z → Q z' H := fun z' r => Pc.now h sd r
    clear h
    unfold ixU at e
    split at e
    · rename_i i
      have := rp_int r2; subst_vars
      split at e
      · rw [Option.map_eq_some_iff] at e
        obtain ⟨d,e,rfl⟩ := e
        cases r1 with
        | d r1 =>
          cases r1 with
          | lst g1 g2 =>
            obtain ⟨z',e1,e2⟩ := atI_rp g2 e
            exact ix_list value slice pins s σ H _ _ v w Q I rx ry ⟨_,_,_,_,rfl,rfl,.inl (sd.ex.rd g1),e1,q _ (.d e2)⟩ hs
      · rw [Option.map_eq_some_iff] at e
        obtain ⟨d,e,rfl⟩ := e
        cases r1 with
        | d r1 =>
          cases r1 with
          | tup g1 g2 =>
            obtain ⟨z',e1,e2⟩ := atI_rp g2 e
            exact ix_tup value slice pins s σ H _ _ v w Q I rx ry ⟨_,_,_,_,rfl,rfl,.inl (.inl (sd.ex _ _ g1)),e1,q _ (.d e2)⟩ hs
      · split at e
        · rename_i hz
          rw [Option.map_eq_some_iff] at e
          obtain ⟨c,e,rfl⟩ := e
          have := rp_str r1; subst_vars
          exact ix_str value slice pins s σ H _ _ v w Q I rx ry ⟨_,_,c,rfl,rfl,sz_le (sizeOk_le hz),e,q _ (.d (.str _))⟩ hs
        · cases e
      · rename_i kvs
        obtain ⟨z,e4,rfl⟩ := Option.map_eq_some_iff.mp e
        clear e
        obtain ⟨zs,hz,e⟩ := Option.bind_eq_some_iff.mp e4
        cases r1 with
        | d r1 =>
          cases r1 with
          | ntx g1 g2 g3 =>
            rw [g1] at hz
            cases hz
            have e3 : L2.atI (zs.map PyData.str) i = some (.str z) := by
              unfold L2.atI at e ⊢
              rw [List.length_map]
              cases q : ixN zs.length i with
              | none => rw [q] at e; cases e
              | some j =>
                rw [q] at e
                show (zs.map PyData.str)[j]? = _
                have e : zs[j]? = some z := e
                rw [List.getElem?_map,e]
                rfl
            obtain ⟨z',e1,e2⟩ := atI_rp (rps_str (G := G) zs) e3
            exact ix_tup value slice pins s σ H _ _ v w Q I rx ry ⟨_,_,_,_,rfl,rfl,.inl (.inr ⟨_,sd.ex _ _ g2⟩),e1,q _ (.d e2)⟩ hs
      · cases r1 with
        | tup g1 g2 =>
          obtain ⟨z',e1,e2⟩ := atI_rpU g2 e
          exact ix_tup value slice pins s σ H _ _ v w Q I rx ry ⟨_,_,_,_,rfl,rfl,.inl (.inl (sd.ex _ _ g1)),e1,q _ e2⟩ hs
      · cases r1 with
        | ref hi =>
          split at e
          · rename_i hc
            rw [Option.map_eq_some_iff] at e
            obtain ⟨d,e,rfl⟩ := e
            obtain ⟨vs,h1,h2⟩ := cell_at sd hi hc
            obtain ⟨z',e1,e2⟩ := atI_rp h2 e
            exact ix_list value slice pins s σ H _ _ v w Q I rx ry ⟨_,_,_,_,rfl,rfl,.inl (.inl h1),e1,q _ (.d e2)⟩ hs
          · rename_i hc
            obtain ⟨vs,h1,h2⟩ := cell_at sd hi hc
            obtain ⟨z',e1,e2⟩ := atI_rpU h2 e
            exact ix_list value slice pins s σ H _ _ v w Q I rx ry ⟨_,_,_,_,rfl,rfl,.inl (.inl h1),e1,q _ e2⟩ hs
          · cases e
      · cases e
    · split at e
      · rename_i kvs k hd hk
        obtain ⟨a,ws,rfl,ha,hkv⟩ := dictOf_ok sd r1 hd
        obtain ⟨b,rfl,hb⟩ := keyU_ok sd r2 hk
        rcases hkv.val k with ⟨e1,e2⟩ | ⟨u',v',e1,e2,e3⟩
        · rw [e1] at e; cases e
        · rw [e1] at e
          cases e
          obtain rfl : v = Value.ref a := rx
          have g : DGet H a (.ref b) (some v') := by
            rw [← e2]
            exact .inr ⟨ws,k,b,ha,rfl,hb,rfl⟩
          exact PyProof.Rows.tail_any (dict_typeIs I g) PySem.F.slot_dict_getitem.lookup (d_getItem (by omega) I g ry fun w' s' I' rw' => ⟨_,H,I',rw',q _ e3⟩) hs
      · cases e
theorem cut_rp {us : List U} {vs : List V} (r : RpUs G φ vs us) (lo hi : Option Int) : RpUs G φ (cutV vs lo hi) (cut us lo hi) := by
  unfold cutV cut
  rw [r.length]
  exact (r.drop _).take _
def rSl (ca : Nat → Addr) (l : Bool) : V → Option Int → Option Int → Hp → VK → Prop := fun x lo hi H Q => ∃ φ G O T u,Sd ca φ G H (O ++ T) ∧ RpU G φ x u ∧ Pc ca rU φ G O (slcU O l u lo hi T) Q
theorem sl_any (l : Bool) : SlR X (rSl ca l) := by
  rintro pins s σ H x v vl vu lo hi sl Q I rx hs pl pu ⟨φ,G,O,T,u,sd,r,h⟩
  unfold slcU at h
  split at h
  · rename_i us hl
    obtain ⟨a,vs,rfl,ha,ra⟩ := seqL_ok sd r hl
    exact sl_list pins s σ H _ v vl vu lo hi sl Q I rx hs pl pu ⟨a,vs,rfl,.inl ha,fun p np => mkL_ok h sd (cut_rp ra lo hi) np⟩
  · split at h
    · rename_i us ht
      obtain ⟨a,vs,rfl,ga,ra⟩ := seqT_okG r ht
      refine sl_tupA pins s σ H _ v vl vu lo hi sl Q I rx hs pl pu ⟨a,vs,rfl,.inl (.inl (sd.ex _ _ ga)),fun hw => ?_,fun _ p np => mkT_ok h sd (cut_rp ra lo hi) np⟩
      have ew : cut us lo hi = us := by
        unfold cut
        rw [ra.length] at hw
        rw [hw.1,hw.2]
        simp
      rw [ew] at h
      exact Pc.now h sd (mkT_rp ga ra)
    · split at h
      · split at h
        · rename_i hz
          have := rp_str r; subst_vars
          exact sl_str pins s σ H _ v vl vu lo hi sl Q I rx hs pl pu ⟨_,rfl,sz_le (sizeOk_le hz),Pc.now h sd (.d (.str _))⟩
        · exact h.elim
      · exact h.elim
end
end Y
namespace Y
open PySem PySem.Spec L2
section
variable {ca : Nat → Addr} {φ φ' : List Addr} {G G' H : Hp} {O T : Cs} {X : Cx} {K : PySem.W.Frag}
theorem RpUs.one {xs : List V} {u : U} (r : RpUs G φ xs [u]) : ∃ x,xs = [x] ∧ RpU G φ x u := by
  cases r with
  | cons h t => cases t; exact ⟨_,rfl,h⟩
theorem RpUs.two {xs : List V} {u w : U} (r : RpUs G φ xs [u,w]) : ∃ x y,xs = [x,y] ∧ RpU G φ x u ∧ RpU G φ y w := by
  cases r with
  | cons h t =>
    cases t with
    | cons h2 t => cases t; exact ⟨_,_,rfl,h,h2⟩
theorem listD_ok (s : Sd ca φ G H (O ++ T)) {u : U} {v : V} {ds : List D} (r : RpU G φ v u) (e : listD O T u = some ds) : ∃ a vs,v = .ref a ∧ Rd H a (.lst vs) ∧ Rps G vs ds := by
  unfold listD at e
  split at e
  · cases e
    cases r with
    | d r => cases r with | lst h1 h2 => exact ⟨_,_,rfl,s.ex.rd h1,h2⟩
  · cases r with
    | ref hi =>
      split at e
      · rename_i hc
        cases e
        obtain ⟨vs,h1,h2⟩ := cell_at s hi hc
        exact ⟨_,vs,rfl,.inl h1,h2⟩
      · cases e
  · cases e
theorem intsOf_ok : ∀ {ds : List D} {vs : List V} {ns : List Int},Rps G vs ds → intsOf ds = some ns → vs = ns.map V.int
  | [],_,k,h,e => by cases h; simp [intsOf] at e; subst e; rfl
  | d :: ds,_,k,h,e => by
    cases h with
    | cons h1 h2 =>
      cases d <;> simp only [intsOf,Option.map_eq_some_iff,reduceCtorEq] at e
      obtain ⟨r,e,rfl⟩ := e
      cases h1
      rw [intsOf_ok h2 e] <;> rfl
abbrev rBi (ca : Nat → Addr) (l : Bool) (b : BI) : List V → Hp → VK → Prop := rOpA ca fun O us T => biU O l b us T
variable {l : Bool}
theorem bi_one {b : BI} {f : Cs → Cs → U → R U} (hf : ∀ O us T,biU O l b us T = one us (f O T)) {xs : List V} {Q : VK} (h : rBi ca l b xs H Q) :
    ∃ x φ G O T u,xs = [x] ∧ Sd ca φ G H (O ++ T) ∧ RpU G φ x u ∧ Pc ca rU φ G O (f O T u) Q := by
  obtain ⟨φ,G,O,T,us,sd,r,h⟩ := h
  have h : Pc ca rU φ G O (biU O l b us T) Q := h
  rw [hf] at h
  rcases us with _ | ⟨u,_ | ⟨u2,rest⟩⟩
  · exact h.elim
  · obtain ⟨x,rfl,r1⟩ := r.one
    exact ⟨x,φ,G,O,T,_,rfl,sd,r1,h⟩
  · exact h.elim
def rLenR : List V → Hp → VK → Prop := fun xs H Q => ∃ (p : Addr) (kvs : List (List L2.Key × V)),xs = [.ref p] ∧ Rd H p (.dT kvs) ∧ Q (.int ((kvs.length : Nat) : Int)) H
theorem call_len_rd {X : Cx} : CallR X (.builtin "len") rLenR := by
  intro pins s σ H xs us Q I r h
  obtain ⟨p,kvs,rfl,hp,q⟩ := h
  obtain ⟨u,rfl,rx⟩ := vals1 r
  obtain rfl : u = .ref p := rx
  obtain ⟨z,hd,ys,rel,dd⟩ := dt_rd I.hok hp
  have hl : kvs.length = ys.length := Paired.length rel
  refine call_len_dictH hd dd (by rw [← hl]; rw [sizeLine_eq] at z; omega) ?_
  rw [← hl]
  exact ⟨.int ((kvs.length : Nat) : Int),H,I.tok _,⟨_,rfl⟩,q⟩
theorem cr_len : CallR X (.builtin "len") (rBi ca l .len) := by
  rintro pins s σ H xs us Q I rv h0
  obtain ⟨x,φ,G,O,T,u,rfl,sd,r,h⟩ := bi_one (b := .len) (f := fun O T => lenB O T) (fun _ _ _ => rfl) h0
  clear h0
  unfold lenB at h
  split at h
  · split at h
    · rename_i hz
      have := rp_str r; subst_vars
      exact call_len_str pins s σ H _ us Q I rv ⟨_,rfl,sz_le (sizeOk_le hz),Pc.now h sd (.d (.int _))⟩
    · exact h.elim
  · split at h
    · rename_i ws hs
      obtain ⟨a,vs,rfl,ha,ra⟩ := seqA_ok sd r hs
      have q : Q (.int (ws.length : Int)) H := Pc.now h sd (.d (.int _))
      rw [← ra.length] at q
      exact call_len_seq pins s σ H _ us Q I rv ⟨a,vs,rfl,ha.elim (fun z => .inl (.inl z)) (fun z => .inr (.inl (.inl z))),q⟩
    · split at h
      · rename_i kvs hd
        obtain ⟨a,ws,rfl,ha,rk⟩ := dictOf_ok sd r hd
        have q : Q (.int (kvs.length : Int)) H := Pc.now h sd (.d (.int _))
        rw [← rk.length] at q
        exact call_len_rd pins s σ H _ us Q I rv ⟨a,ws,rfl,ha,q⟩
      · split at h
        · rename_i d
          split at h
          · rename_i zs hz
            have q : Q (.int (zs.length : Int)) H := Pc.now h sd (.d (.int _))
            cases r with
            | d r =>
              cases r with
              | ntx g1 g2 g3 =>
                rw [g1] at hz
                cases hz
                exact call_len_seq pins s σ H _ us Q I rv ⟨_,zs.map V.str,rfl,.inr (.inl (.inr ⟨_,sd.ex _ _ g2⟩)),by rw [List.length_map]; exact q⟩
              | non => cases hz
              | bl _ => cases hz
              | int _ => cases hz
              | str _ => cases hz
              | lst _ _ => cases hz
              | tup _ _ => cases hz
          · exact h.elim
        · exact h.elim
theorem cr_list : CallR X (.type "list") (rBi ca l .list) := by
  rintro pins s σ H xs us Q I rv h0
  obtain ⟨x,φ,G,O,T,u,rfl,sd,r,h⟩ := bi_one (b := .list) (f := fun O T => listB O l T) (fun _ _ _ => rfl) h0
  clear h0
  unfold listB at h
  split at h
  · rename_i ws hs
    obtain ⟨a,vs,rfl,ha,ra⟩ := seqA_ok sd r hs
    exact call_list_of pins s σ H _ us Q I rv ⟨a,vs,rfl,ha.elim (fun z => .inl (.inl z)) (fun z => .inr (.inl (.inl z))),fun p np => mkL_ok h sd ra np⟩
  · exact h.elim
theorem cr_tuple : CallR X (.type "tuple") (rBi ca l .tuple) := by
  rintro pins s σ H xs us Q I rv h0
  obtain ⟨x,φ,G,O,T,u,rfl,sd,r,h⟩ := bi_one (b := .tuple) (f := fun O T => tupleB O T) (fun _ _ _ => rfl) h0
  clear h0
  unfold tupleB at h
  split at h
  · rename_i ws hs
    obtain ⟨a,vs,rfl,ha,ra⟩ := seqL_ok sd r hs
    exact call_tuple_of pins s σ H _ us Q I rv ⟨a,vs,rfl,.inl ⟨.inl ha,fun p np => mkT_ok h sd ra np⟩⟩
  · split at h
    · rename_i hs
      obtain ⟨a,vs,rfl,ha,ra⟩ := seqT_ok sd r hs
      exact call_tuple_of pins s σ H _ us Q I rv ⟨a,vs,rfl,.inr ⟨.inl (.inl ha),Pc.now h sd r⟩⟩
    · exact h.elim
theorem cr_int : CallR X (.type "int") (rBi ca l .int) := by
  rintro pins s σ H xs us Q I rv h0
  obtain ⟨x,φ,G,O,T,u,rfl,sd,r,h⟩ := bi_one (b := .int) (f := fun O T => intB T) (fun _ _ _ => rfl) h0
  clear h0
  unfold intB at h
  split at h
  · have := rp_int r; subst_vars
    exact call_int1 pins s σ H _ us Q I rv (.inl ⟨_,rfl,Pc.now h sd (.d (.int _))⟩)
  · have e1 := rp_bl r
    subst e1
    exact call_int1 pins s σ H _ us Q I rv (.inr ⟨_,rfl,Pc.now h sd (.d (.int _))⟩)
  · have := rp_str r; subst_vars
    split at h
    · split at h
      · rename_i e1 e2
        exact call_int_str pins s σ H _ us Q I rv ⟨_,_,rfl,e1,of_decide_eq_true e2,Pc.now h sd (.d (.int _))⟩
      · exact h.elim
    · exact h.elim
  · exact h.elim
def tyS : Ty → String
  | .non => "NoneType" | .bool => "bool" | .int => "int" | .str => "str" | .list => "list" | .tuple => "tuple" | .dict => "dict"
theorem tyU_ok (s : Sd ca φ G H (O ++ T)) {u : U} {v : V} {t : Ty} (r : RpU G φ v u) (e : tyU O T u = some t) : TyX K H v (.type (tyS t)) := by
  unfold tyU at e
  split at e
  · cases e; cases r with | d r => cases r; exact .base .non
  · cases e; cases r with | d r => cases r; exact .base (.bl _)
  · cases e; cases r with | d r => cases r; exact .base (.int _)
  · cases e; cases r with | d r => cases r; exact .base (.str _)
  · cases e
    cases r with
    | d r =>
      cases r with
      | lst h1 h2 =>
        rcases s.ex.rd h1 with h | ⟨o,h⟩
        · exact .base (.lst h)
        · exact .base (.frz h)
  · cases e; cases r with | d r => cases r with | tup h1 h2 => exact .base (.tup (s.ex _ _ h1))
  · cases e; cases r with | tup h1 h2 => exact .base (.tup (s.ex _ _ h1))
  · cases r with
    | ref hi =>
      split at e
      · rename_i hc; cases e; obtain ⟨vs,h1,_⟩ := cell_at s hi hc; exact .base (.lst h1)
      · rename_i hc; cases e; obtain ⟨vs,h1,_⟩ := cell_at s hi hc; exact .base (.lst h1)
      · rename_i hc; cases e; obtain ⟨vs,h1,_⟩ := cell_at s hi hc; exact .base (.dT h1)
      · rename_i hc; cases e; obtain ⟨vs,h1,_⟩ := cell_at s hi hc; exact .base (.dT h1)
      · rename_i hc; cases e; exact .base (.dK (cell_at s hi hc))
      · cases e
  · cases e
theorem kit_tys (a b : Ty) (hb : b ≠ .non) : kitB (tyS a) (tyS b) = some (decide (a = b) || (decide (a = .bool) && decide (b = .int))) := by
  cases b <;> first | exact absurd rfl hb | (cases a <;> decide +kernel)
def isiB : BI → Option Ty
  | .isint => some .int | .isbool => some .bool | .isstr => some .str | .islist => some .list | .istuple => some .tuple | .isdict => some .dict
  | _ => none
theorem isiB_eq {b : BI} {t : Ty} (h : isiB b = some t) (O : Cs) (us : List U) (T : Cs) : biU O l b us T = one us (isB O T t) := by
  cases b <;> first | (cases h; rfl) | cases h
def rIsU (ca : Nat → Addr) (t : Ty) : List V → Hp → VK → Prop := fun xs H Q => ∃ x φ G O T u,xs = [x,.ty (tyS t)] ∧ Sd ca φ G H (O ++ T) ∧ RpU G φ x u ∧ Pc ca rU φ G O (isB O T t u) Q
theorem cr_isi {t : Ty} (ht : t ≠ .non) : CallR X (.builtin "isinstance") (rIsU ca t) := by
  rintro pins s σ H xs us Q I rv ⟨x,φ,G,O,T,u,rfl,sd,r,h⟩
  unfold isB at h
  split at h
  · rename_i a ha
    exact call_isi pins s σ H _ us Q I rv ⟨x,_,_,_,_,rfl,.ty _,tyU_ok sd r ha,kit_ty (kit_tys a t ht),Pc.now h sd (.d (.bl _))⟩
  · exact h.elim
end
end Y
namespace Y
open PySem PySem.Spec L2
section
variable {ca : Nat → Addr} {φ φ' : List Addr} {G G' H : Hp} {O T : Cs} {X : Cx} {K : PySem.W.Frag} {l : Bool}
theorem setC_ok {Q : VK} {i : Nat} {a : Addr} {c c' : Cell} {o : HO} (h : Pc ca rU φ G O (setC O T i c') Q) (s : Sd ca φ G H (O ++ T)) (hi : φ[i]? = some a) (hc : getC O T i = some c) (hl : live c) (k : CellOk ca G φ (upd H a o) a c') : Q .non (upd H a o) := by
  unfold setC at h
  split at h
  · rename_i hb
    rw [getC_eq] at hc
    have s' := s.write hi hc hl k
    rw [set_own _ _ _ _ hb.1] at s'
    exact Pc.now h s' (.d .non)
  · exact h.elim
abbrev rMt (ca : Nat → Addr) (l : Bool) (m : MT) : V → List V → Hp → VK → Prop := rOpM ca fun O u us T => mtU O l m u us T
theorem cellOf_ok {a : Addr} {vs : List V} {us : List U} {H : Hp} (h : H a = some (.lst vs)) (r : RpUs G φ vs us) : CellOk ca G φ H a (cellOf us) := by
  unfold cellOf
  cases e : allD us with
  | none => exact ⟨vs,h,r⟩
  | some ds => exact ⟨vs,h,r.down e⟩
theorem live_lst {ds : List D} : live (.lst ds) := trivial
theorem live_lstU {ds : List U} : live (.lstU ds) := trivial
theorem Rps.app {vs ws : List V} {ds es : List D} (a : Rps G vs ds) (b : Rps G ws es) : Rps G (vs ++ ws) (ds ++ es) := by
  have := (a.up (φ := [])).append (b.up (φ := []))
  rw [← List.map_append] at this
  exact this.downD
theorem Rps.eraseIdx : ∀ {us : List D} {vs : List V} (n : Nat),Rps G vs us → Rps G (vs.eraseIdx n) (us.eraseIdx n)
  | [],_,_,q => by cases q; exact .nil
  | d :: ds,_,0,q => by cases q with | cons _ h2 => exact h2
  | d :: ds,_,n + 1,q => by cases q with | cons h1 h2 => exact .cons h1 (Rps.eraseIdx n h2)
theorem mt_append' : MtR X "list.append" (rMt ca l .append) := by
  rintro pins s σ H x xs v us Q I rx rv ⟨φ,G,O,T,u,ws,sd,ru,rw_,h⟩
  have h : Pc ca rU φ G O (mtU O l .append u ws T) Q := h
  unfold mtU at h
  split at h
  all_goals try contradiction
  all_goals first | exact h.elim | skip
  obtain ⟨y,rfl,ry⟩ := rw_.one
  cases ru with
  | ref hi =>
    unfold appU at h
    split at h
    · rename_i ds hc
      obtain ⟨vs,h1,h2⟩ := cell_at sd hi hc
      split at h
      · rename_i hz
        have hz := sizeOk_le hz
        rw [← h2.length] at hz
        split at h
        · rename_i x'
          cases ry with
          | d ry => exact mt_append pins s σ H _ _ v us Q I rx rv ⟨_,vs,y,rfl,rfl,h1,sz_lt hz,setC_ok h sd hi hc live_lst ⟨_,upd_same,h2.app (.cons ry .nil)⟩⟩
        · exact mt_append pins s σ H _ _ v us Q I rx rv ⟨_,vs,y,rfl,rfl,h1,sz_lt hz,setC_ok h sd hi hc live_lst ⟨_,upd_same,h2.up.append (.cons ry .nil)⟩⟩
      · exact h.elim
    · rename_i ds hc
      obtain ⟨vs,h1,h2⟩ := cell_at sd hi hc
      split at h
      · rename_i hz
        have hz := sizeOk_le hz
        rw [← h2.length] at hz
        exact mt_append pins s σ H _ _ v us Q I rx rv ⟨_,vs,y,rfl,rfl,h1,sz_lt hz,setC_ok h sd hi hc live_lstU ⟨_,upd_same,h2.append (.cons ry .nil)⟩⟩
      · exact h.elim
    · exact h.elim
theorem mt_extend' : MtR X "list.extend" (rMt ca l .extend) := by
  rintro pins s σ H x xs v us Q I rx rv ⟨φ,G,O,T,u,ws,sd,ru,rw_,h⟩
  have h : Pc ca rU φ G O (mtU O l .extend u ws T) Q := h
  unfold mtU at h
  split at h
  all_goals try contradiction
  all_goals first | exact h.elim | skip
  obtain ⟨y,rfl,ry⟩ := rw_.one
  cases ru with
  | ref hi =>
    split at h
    · rename_i ds zs hc hs
      obtain ⟨vs,h1,h2⟩ := cell_at sd hi hc
      obtain ⟨b,ys,rfl,hb,rb⟩ := seqL_ok sd ry hs
      split at h
      · rename_i hz
        have hz := sizeOk_le hz
        rw [← h2.length,← rb.length] at hz
        exact mt_extendR pins s σ H _ _ v us Q I rx rv ⟨_,b,vs,ys,rfl,rfl,h1,hb,sz_le hz,setC_ok h sd hi hc live_lst (cellOf_ok upd_same (h2.up.append rb))⟩
      · exact h.elim
    · rename_i ds zs hc hs
      obtain ⟨vs,h1,h2⟩ := cell_at sd hi hc
      obtain ⟨b,ys,rfl,hb,rb⟩ := seqL_ok sd ry hs
      split at h
      · rename_i hz
        have hz := sizeOk_le hz
        rw [← h2.length,← rb.length] at hz
        exact mt_extendR pins s σ H _ _ v us Q I rx rv ⟨_,b,vs,ys,rfl,rfl,h1,hb,sz_le hz,setC_ok h sd hi hc live_lstU ⟨_,upd_same,h2.append rb⟩⟩
      · exact h.elim
    · exact h.elim
theorem Rps.dropLast {ds : List D} {vs : List V} (r : Rps G vs ds) : Rps G vs.dropLast ds.dropLast := by
  have := (r.up (φ := [])).dropLast
  rw [← List.map_dropLast] at this
  exact this.downD
theorem mt_insert' : MtR X "list.insert" (rMt ca l .insert) := by
  rintro pins s σ H x xs v us Q I rx rv ⟨φ,G,O,T,u,ws,sd,ru,rw_,h⟩
  have h : Pc ca rU φ G O (mtU O l .insert u ws T) Q := h
  unfold mtU at h
  split at h
  all_goals try contradiction
  all_goals first | exact h.elim | skip
  obtain ⟨y,z,rfl,ry,rz⟩ := rw_.two
  have := rp_int ry; subst_vars
  cases ru with
  | ref hi =>
    split at h
    · rename_i ds hc
      obtain ⟨vs,h1,h2⟩ := cell_at sd hi hc
      split at h
      · rename_i hb
        simp only [Bool.and_eq_true,decide_eq_true_eq] at hb
        have hz := sizeOk_le hb.2
        rw [← h2.length] at hz
        cases rz with
        | d rz =>
          have h3 : ∀ n,Rps G (vs.take n) (ds.take n) := fun n => by
            have := (h2.up (φ := [])).take n
            rw [← List.map_take] at this
            exact this.downD
          have h4 : ∀ n,Rps G (vs.drop n) (ds.drop n) := fun n => by
            have := (h2.up (φ := [])).drop n
            rw [← List.map_drop] at this
            exact this.downD
          exact mt_insert pins s σ H _ _ v us Q I rx rv ⟨_,vs,_,z,rfl,rfl,h1,sz_lt hz,hb.1.1,by omega,setC_ok h sd hi hc live_lst ⟨_,upd_same,((h3 _).app (.cons rz .nil)).app (h4 _)⟩⟩
      · exact h.elim
    · exact h.elim
theorem RpK.getD {ws : List (List Key × V)} {kvs : List (Ky × U)} (k : Ky) (r : RpK G φ ws kvs) {v : V} {u : U} (h : RpU G φ v u) : RpU G φ ((valV ws k).getD v) ((lookK kvs k).getD u) := by
  rcases r.val k with ⟨e1,e2⟩ | ⟨_,_,e1,e2,e3⟩
  · rw [e1,e2]; exact h
  · rw [e1,e2]; exact e3
end
end Y
namespace Y
open PySem PySem.Spec L2
section
variable {ca : Nat → Addr} {φ φ' φ0 : List Addr} {G G' G0 H : Hp} {O T : Cs} {X : Cx} {K : PySem.W.Frag} {C : Cn} {σ : L2.St} {ρ : Rho} {D : Ends} {pos : Pos}
mutual
theorem beqD_eq : ∀ (a b : Y.D),beqD a b = true → a = b
  | .none,b,h => by cases b <;> simp_all [beqD]
  | .bool x,b,h => by cases b <;> simp_all [beqD]
  | .int x,b,h => by cases b <;> simp_all [beqD]
  | .str x,b,h => by cases b <;> simp_all [beqD]
  | .list x,b,h => by
    cases b <;> simp only [beqD,Bool.false_eq_true] at h
    rw [beqDs_eq _ _ h]
  | .tuple x,b,h => by
    cases b <;> simp only [beqD,Bool.false_eq_true] at h
    rw [beqDs_eq _ _ h]
  | .dict x,b,h => by
    cases b <;> simp only [beqD,Bool.false_eq_true] at h
    rw [beqDp_eq _ _ h]
theorem beqDp_eq : ∀ (a b : List (Y.D × Y.D)),beqDp a b = true → a = b
  | [],b,h => by cases b <;> simp_all [beqDp]
  | (a,x) :: xs,b,h => by
    cases b <;> simp only [beqDp,Bool.false_eq_true,Bool.and_eq_true] at h
    rw [beqD_eq _ _ h.1.1,beqD_eq _ _ h.1.2,beqDp_eq _ _ h.2]
theorem beqDs_eq : ∀ (a b : List Y.D),beqDs a b = true → a = b
  | [],b,h => by cases b <;> simp_all [beqDs]
  | x :: xs,b,h => by
    cases b <;> simp only [beqDs,Bool.false_eq_true,Bool.and_eq_true] at h
    rw [beqD_eq _ _ h.1,beqDs_eq _ _ h.2]
end
mutual
theorem beqU_eq : ∀ (a b : U),beqU a b = true → a = b
  | .d x,b,h => by
    cases b <;> simp only [beqU,Bool.false_eq_true] at h
    rw [beqD_eq _ _ h]
  | .ref x,b,h => by cases b <;> simp_all [beqU]
  | .tup x,b,h => by
    cases b <;> simp only [beqU,Bool.false_eq_true] at h
    rw [beqUs_eq _ _ h]
theorem beqUs_eq : ∀ (a b : List U),beqUs a b = true → a = b
  | [],b,h => by cases b <;> simp_all [beqUs]
  | x :: xs,b,h => by
    cases b <;> simp only [beqUs,Bool.false_eq_true,Bool.and_eq_true] at h
    rw [beqU_eq _ _ h.1,beqUs_eq _ _ h.2]
end
theorem beqDk_eq : ∀ (a b : List (Ky × Y.D)),beqDk a b = true → a = b
  | [],b,h => by cases b <;> simp_all [beqDk]
  | (k,x) :: xs,b,h => by
    cases b <;> simp only [beqDk,Bool.false_eq_true,Bool.and_eq_true,decide_eq_true_eq] at h
    rw [h.1.1,beqD_eq _ _ h.1.2,beqDk_eq _ _ h.2]
theorem beqUk_eq : ∀ (a b : List (Ky × U)),beqUk a b = true → a = b
  | [],b,h => by cases b <;> simp_all [beqUk]
  | (k,x) :: xs,b,h => by
    cases b <;> simp only [beqUk,Bool.false_eq_true,Bool.and_eq_true,decide_eq_true_eq] at h
    rw [h.1.1,beqU_eq _ _ h.1.2,beqUk_eq _ _ h.2]
theorem beqC_eq : ∀ (a b : Cell),beqC a b = true → a = b
  | .lst x,b,h => by cases b <;> simp only [beqC,Bool.false_eq_true] at h; rw [beqDs_eq _ _ h]
  | .lstU x,b,h => by cases b <;> simp only [beqC,Bool.false_eq_true] at h; rw [beqUs_eq _ _ h]
  | .dct x,b,h => by cases b <;> simp only [beqC,Bool.false_eq_true] at h; rw [beqDk_eq _ _ h]
  | .dctU x,b,h => by cases b <;> simp only [beqC,Bool.false_eq_true] at h; rw [beqUk_eq _ _ h]
  | .dctL x,b,h => by cases b <;> simp only [beqC,Bool.false_eq_true] at h; rw [beqUk_eq _ _ h]
  | .ins _ _,b,h => by cases b <;> simp [beqC] at h
  | .exn _ _,b,h => by cases b <;> simp [beqC] at h
  | .dctS x,b,h => by cases b <;> simp only [beqC,Bool.false_eq_true,decide_eq_true_eq] at h; rw [h]
  | .dead,b,h => by cases b <;> simp [beqC] at h
theorem beqFs_eq : ∀ (a b : List (Str × U)),beqFs a b = true → a = b
  | [],b,h => by cases b <;> simp_all [beqFs]
  | (k,x) :: xs,b,h => by
    cases b <;> simp only [beqFs,Bool.false_eq_true,Bool.and_eq_true,decide_eq_true_eq] at h
    rw [h.1.1,beqU_eq _ _ h.1.2,beqFs_eq _ _ h.2]
theorem beqA_eq : ∀ (a b : Cell),beqA a b = true → a = b
  | .lst x,b,h => by cases b <;> simp only [beqA,Bool.false_eq_true] at h; rw [beqDs_eq _ _ h]
  | .lstU x,b,h => by cases b <;> simp only [beqA,Bool.false_eq_true] at h; rw [beqUs_eq _ _ h]
  | .dct x,b,h => by cases b <;> simp only [beqA,Bool.false_eq_true] at h; rw [beqDk_eq _ _ h]
  | .dctU x,b,h => by cases b <;> simp only [beqA,Bool.false_eq_true] at h; rw [beqUk_eq _ _ h]
  | .dctL x,b,h => by cases b <;> simp only [beqA,Bool.false_eq_true] at h; rw [beqUk_eq _ _ h]
  | .dctS x,b,h => by cases b <;> simp only [beqA,Bool.false_eq_true,decide_eq_true_eq] at h; rw [h]
  | .ins c x,b,h => by
    cases b <;> simp only [beqA,Bool.false_eq_true,Bool.and_eq_true,decide_eq_true_eq] at h
    rw [h.1,beqFs_eq _ _ h.2]
  | .exn c x,b,h => by
    cases b <;> simp only [beqA,Bool.false_eq_true,Bool.and_eq_true,decide_eq_true_eq] at h
    have e := beqFs_eq _ _ h.2
    have e2 := (List.map_inj_right (fun a b (q : ((a.1,U.d a.2) : Str × U) = (b.1,U.d b.2)) => by
      obtain ⟨a1,a2⟩ := a
      obtain ⟨b1,b2⟩ := b
      simp only [Prod.mk.injEq,U.d.injEq] at q
      rw [q.1,q.2])).mp e
    rw [h.1,e2]
  | .dead,b,h => by cases b <;> simp_all [beqA]
theorem beqCs_eq : ∀ (a b : Cs),beqCs a b = true → a = b
  | [],b,h => by cases b <;> simp_all [beqCs]
  | x :: xs,b,h => by
    cases b <;> simp only [beqCs,Bool.false_eq_true,Bool.and_eq_true] at h
    rw [beqA_eq _ _ h.1,beqCs_eq _ _ h.2]
theorem sameW_eq {T' : Cs} {i : Nat} {c : Cell} (h : sameW O T T' (some i) = true) (e : getC O T i = some c) : getC O T' i = some c := by
  unfold sameW at h
  simp only [e] at h
  cases e' : getC O T' i with
  | none => rw [e'] at h; cases h
  | some c' => rw [e'] at h; rw [beqC_eq _ _ h]
mutual
def slotsT : Tg → List Nat
  | .nm i => [i]
  | .tp ts => slotsTs ts
  | .lp ts => slotsTs ts
def slotsTs : Tgs → List Nat
  | .nil => []
  | .cons t ts => slotsT t ++ slotsTs ts
end
def SameBut (is : List Nat) (σ σ' : L2.St) : Prop := ∀ vs : List Nat,(∀ i ∈ is,i ∈ vs) → wipe σ' vs = wipe σ vs
theorem wipe_set_ne {σ : L2.St} {i : Nat} {x : Option V} : ∀ {vs : List Nat},i ∉ vs → wipe (σ.set i x) vs = (wipe σ vs).set i x
  | [],_ => rfl
  | v :: vs,h => by
    unfold wipe
    rw [wipe_set_ne (fun z => h (List.mem_cons_of_mem _ z)),List.set_comm _ _ (fun e => h (by rw [e]; exact List.mem_cons_self))]
theorem wipe_set {σ : L2.St} {i : Nat} {x : Option V} : ∀ {vs : List Nat},i ∈ vs → wipe (σ.set i x) vs = wipe σ vs
  | [],h => by simp at h
  | v :: vs,h => by
    unfold wipe
    by_cases hv : i ∈ vs
    · rw [wipe_set hv]
    · have e : i = v := by
        rcases List.mem_cons.mp h with e | e
        · exact e
        · exact absurd e hv
      subst e
      rw [wipe_set_ne hv,List.set_set]
theorem SameBut.refl {is : List Nat} {σ : L2.St} : SameBut is σ σ := fun _ _ => rfl
theorem SameBut.trans {is js : List Nat} {σ σ1 σ2 : L2.St} (a : SameBut is σ σ1) (b : SameBut js σ1 σ2) : SameBut (is ++ js) σ σ2 := fun vs h => (b vs fun i hi => h i (List.mem_append_right _ hi)).trans (a vs fun i hi => h i (List.mem_append_left _ hi))
def RG (ca : Nat → Addr) (tg : Tg) : L2.TG := fun v σ H Q => ∃ φ G O ρ T u,At ca φ G H O T σ ρ ∧ RpU G φ v u ∧ match asgT O T tg u ρ with
  | some ρ' => ∀ σ',At ca φ G H O T σ' ρ' → SameBut (slotsT tg) σ σ' → Q σ' H
  | none => False
def RGs (ca : Nat → Addr) (tg : Tgs) : L2.TGs := fun vs σ H Q => ∃ φ G O ρ T us,At ca φ G H O T σ ρ ∧ RpUs G φ vs us ∧ match asgTs O T tg us ρ with
  | some ρ' => ∀ σ',At ca φ G H O T σ' ρ' → SameBut (slotsTs tg) σ σ' → Q σ' H
  | none => False
theorem At.set (t : At ca φ G H O T σ ρ) {v : V} {u : U} (r : RpU G φ v u) (i : Nat) : At ca φ G H O T (σ.set i (some v)) (ρ.set i (some u)) := by
  refine ⟨t.s,fun j w h => ?_,by simp [t.n]⟩
  by_cases e : i = j
  · subst e
    have lt : i < ρ.length := by
      have := (List.getElem?_eq_some_iff.mp h).1
      simpa using this
    rw [List.getElem?_set_self lt] at h
    cases h
    exact ⟨v,List.getElem?_set_self (by rw [t.n]; exact lt),r⟩
  · rw [List.getElem?_set_ne e] at h
    obtain ⟨v',h1,h2⟩ := t.l j w h
    exact ⟨v',by rw [List.getElem?_set_ne e]; exact h1,h2⟩
theorem pg_nm {i : Nat} {x : Str} (hN : X.N.Nodup) (hi : X.N[i]? = some x) (hx : Loc X.env.scope x) (hf : X.fn x = true ∨ X.env.scope.names.lookup x = some .local) : PG X (.Name x pos) (RG ca (.nm i)) := by
  refine (pg_name hN hi hx hf).imp ?_
  rintro v σ H Q ⟨φ,G,O,ρ,T,u,t,r,h⟩
  exact h _ (t.set r i) fun vs hi => wipe_set (hi i (by simp [slotsT]))
theorem pgs_nl : PGs X [] (RGs ca .nil) := by
  refine ⟨fun pins s σ H vs us Q I r h => pgs_nil.run pins s σ H vs us Q I r ?_⟩
  obtain ⟨φ,G,O,ρ,T,us',t,r',h⟩ := h
  cases us' with
  | nil => cases r'; exact ⟨rfl,h _ t SameBut.refl⟩
  | cons _ _ => exact h.elim
theorem pgs_cn {e : Expr} {es : List Expr} {tg : Tg} {tgs : Tgs} (h1 : PG X e (RG ca tg)) (h2 : PGs X es (RGs ca tgs)) (hs : (assignEach (e :: es) X.env).map (·.2) = assign e X.env :: (assignEach es X.env).map (·.2)) : PGs X (e :: es) (RGs ca (.cons tg tgs)) := by
  refine ⟨fun pins s σ H vs us Q I r h => (pgs_cons h1 h2 hs).run pins s σ H vs us Q I r ?_⟩
  obtain ⟨φ,G,O,ρ,T,us',t,r',h⟩ := h
  cases us' with
  | nil => exact h.elim
  | cons u us' =>
    cases r' with
    | cons r1 r2 =>
      refine ⟨_,_,rfl,φ,G,O,ρ,T,u,t,r1, ?_⟩
      rw [asgTs] at h
      cases e : asgT O T tg u ρ with
      | none => rw [e] at h; exact h.elim
      | some ρ' =>
        rw [e] at h
        refine fun σ' t' sb => ⟨φ,G,O,ρ',T,us',t',r2, ?_⟩
        cases e2 : asgTs O T tgs us' ρ' with
        | none => simp only [e2] at h
        | some ρ2 => simp only [e2] at h; exact fun σ2 t2 sb2 => h σ2 t2 (sb.trans sb2)
theorem pg_tp {es : List Expr} {k : Nat} {tgs : Tgs} {n : Nat} (hc : X.calm = true) (h : PGs X es (RGs ca tgs)) (hn : (assignEach es X.env).length = n) (hst : (assignEach es X.env).findIdx? (·.1) = none)
    (hlen : ∀ (O T : Cs) us ρ ρ',asgTs O T tgs us ρ = some ρ' → us.length = n) : PG X (.Tuple es k pos) (RG ca (.tp tgs)) := by
  refine (pg_tup hc h hn hst).imp ?_
  rintro v σ H Q ⟨φ,G,O,ρ,T,u,t,r,h⟩
  rw [asgT] at h
  cases e : seqT u with
  | none => rw [e] at h; exact h.elim
  | some us =>
    rw [e] at h
    obtain ⟨a,vs,rfl,ha,ra⟩ := seqT_ok t.s r e
    refine ⟨a,vs,rfl,.inl (.inl ha), ?_,φ,G,O,ρ,T,us,t,ra,h⟩
    cases e2 : asgTs O T tgs us ρ with
    | none => have h' : (match asgTs O T tgs us ρ with | some ρ' => ∀ σ',At ca φ G H O T σ' ρ' → SameBut (slotsTs tgs) σ σ' → Q σ' H | none => False) := h; rw [e2] at h'; exact h'.elim
    | some ρ' => rw [ra.length]; exact hlen _ _ _ _ _ e2
def PF (ca : Nat → Addr) (φ : List Addr) (G : Hp) (O : Cs) (r : F) (D : Ends) : Prop := match r with
  | .nx ρ T => ∀ σ φ' G' H',Fut φ G φ' G' → At ca φ' G' H' O T σ ρ → D.nx σ H'
  | .rt u T => ∀ v φ' G' H',Fut φ G φ' G' → Sd ca φ' G' H' (O ++ T) → RpU G' φ' v u → D.rt v H'
  | .bk ρ T => ∀ σ φ' G' H',Fut φ G φ' G' → At ca φ' G' H' O T σ ρ → D.bk σ H'
  | .ct ρ T => ∀ σ φ' G' H',Fut φ G φ' G' → At ca φ' G' H' O T σ ρ → D.ct σ H'
  | .exc _ _ _ _ => False
  | .fail => False
theorem PF.later {r : F} (f : Fut φ G φ' G') (h : PF ca φ G O r D) : PF ca φ' G' O r D := by
  cases r with
  | nx ρ T => exact fun σ φ2 G2 H2 f2 t => h σ φ2 G2 H2 (f.trans f2) t
  | rt u T => exact fun v φ2 G2 H2 f2 s r => h v φ2 G2 H2 (f.trans f2) s r
  | bk ρ T => exact fun σ φ2 G2 H2 f2 t => h σ φ2 G2 H2 (f.trans f2) t
  | ct ρ T => exact fun σ φ2 G2 H2 f2 t => h σ φ2 G2 H2 (f.trans f2) t
  | exc => exact h
  | fail => exact h
def RS (ca : Nat → Addr) (C : Cn) (c : CS) : TS := fun D σ H => ∃ φ G O ρ T,At ca φ G H O T σ ρ ∧ PF ca φ G O (denS C O c ρ T) D
def RBl (ca : Nat → Addr) (C : Cn) (c : CB) : TS := fun D σ H => ∃ φ G O ρ T,At ca φ G H O T σ ρ ∧ PF ca φ G O (denB C O c ρ T) D
theorem PF.of {r : R U} {k : U → Cs → F} (h : PF ca φ G O (F.of ρ r k) D) : Pc ca rU φ G O r (fun v H' => Mid ca rU φ G O v H' fun u T' φ' G' => PF ca φ' G' O (k u T') D) := by
  cases r with
  | ok u T =>
    have h : PF ca φ G O (k u T) D := h
    exact fun b φ2 G2 H2 f2 s r => ⟨φ2,G2,T,u,f2,s,r,h.later f2⟩
  | exc => exact h
  | fail => exact h
theorem pss_nl : PSs X [] (RBl ca C .nil) := pss_nil.imp fun D σ H => by
  rintro ⟨φ,G,O,ρ,T,t,h⟩
  rw [denB] at h
  exact h σ φ G H Fut.refl t
theorem pss_cn {st : Stmt} {sts : List Stmt} {c : CS} {b : CB} (h1 : PS X st (RS ca C c)) (h2 : PSs X sts (RBl ca C b)) : PSs X (st :: sts) (RBl ca C (.cons c b)) := (pss_cons h1 h2).imp fun D σ H => by
  rintro ⟨φ,G,O,ρ,T,t,h⟩
  rw [denB] at h
  refine ⟨φ,G,O,ρ,T,t, ?_⟩
  cases e : denS C O c ρ T with
  | nx ρ' T' =>
    rw [e] at h
    exact fun σ' φ' G' H' f t' => ⟨φ',G',O,ρ',T',t',h.later f⟩
  | rt u T' => rw [e] at h; exact h
  | bk ρ T => rw [e] at h; exact h
  | ct ρ T => rw [e] at h; exact h
  | exc => rw [e] at h; exact h
  | fail => rw [e] at h; exact h
theorem ps_as {tg e : Expr} {g : Tg} {c : CE} (he : PE X e (RE ca C c)) (hg : PG X tg (RG ca g)) (hs : swapsWithSole [tg] e pos.line X.env = pure false) (hw : swappedStores [tg] e X.env = pure none) (hm : (assignEach [tg] X.env).map (·.2) = [assign tg X.env]) : PS X (.Assign [tg] e pos) (RS ca C (.asg g c)) :=
  (ps_asg he hg hs hw hm).imp fun D σ H => by
    rintro ⟨φ,G,O,ρ,T,t,h⟩
    rw [denS] at h
    refine ⟨φ,G,O,ρ,T,t,Pc.imp h.of ?_⟩
    rintro v H1 ⟨φ1,G1,T1,u,f1,s1,r1,h1⟩
    refine ⟨φ1,G1,O,ρ,T1,u,⟨s1,f1.lo t.l,t.n⟩,r1, ?_⟩
    cases e : asgT O T1 g u ρ with
    | none => rw [e] at h1; exact h1
    | some ρ' => rw [e] at h1; exact fun σ' t' _ => h1 σ' φ1 G1 H1 Fut.refl t'
theorem ps_ex {e : Expr} {c : CE} (he : PE X e (RE ca C c)) (hs : swapsWith e none pos.line X.env = pure false) : PS X (.Expr e pos) (RS ca C (.ex c)) := (ps_expr he hs).imp fun D σ H => by
  rintro ⟨φ,G,O,ρ,T,t,h⟩
  rw [denS] at h
  refine ⟨φ,G,O,ρ,T,t,Pc.imp h.of ?_⟩
  rintro v H1 ⟨φ1,G1,T1,u,f1,s1,r1,h1⟩
  exact h1 σ φ1 G1 H1 Fut.refl ⟨s1,f1.lo t.l,t.n⟩
theorem ps_rt {e : Expr} {c : CE} (he : PE X e (RE ca C c)) : PS X (.Return (some e) pos) (RS ca C (.ret c)) := (ps_ret he).imp fun D σ H => by
  rintro ⟨φ,G,O,ρ,T,t,h⟩
  rw [denS] at h
  refine ⟨φ,G,O,ρ,T,t,Pc.imp h.of ?_⟩
  rintro v H1 ⟨φ1,G1,T1,u,f1,s1,r1,h1⟩
  exact h1 v φ1 G1 H1 Fut.refl s1 r1
theorem ps_rtN : PS X (.Return none pos) (RS ca C .retN) := ps_retN.imp fun D σ H => by
  rintro ⟨φ,G,O,ρ,T,t,h⟩
  rw [denS] at h
  exact h .non φ G H Fut.refl t.s (.d .non)
theorem PF.br {r : R U} {k : Bool → Cs → F} (h : PF ca φ G O (F.of ρ r fun x T => match asB x with | some true => k true T | some false => k false T | none => .fail) D) :
    Pc ca rB φ G O (tst r) (fun b H' => Mid ca rB φ G O b H' fun a T' φ' G' => PF ca φ' G' O (k a T') D) := by
  cases r with
  | ok u T =>
    have h : PF ca φ G O (match asB u with | some true => k true T | some false => k false T | none => .fail) D := h
    show Pc ca rB φ G O (R.ofO T (asB u)) _
    cases e : asB u with
    | none => rw [e] at h; exact h
    | some b =>
      rw [e] at h
      intro b' φ2 G2 H2 f2 s r
      have r : b' = b := r
      subst r
      refine ⟨φ2,G2,T,b',f2,s,rfl, ?_⟩
      cases b' <;> exact h.later f2
  | exc => exact h
  | fail => exact h
theorem ps_it {t : Expr} {a b : List Stmt} {ct : CE} {cx cy : CB} (ht : PT X t (RT ca C ct)) (ha : PSs X a (RBl ca C cx)) (hb : PSs X b (RBl ca C cy)) : PS X (.If t a b pos) (RS ca C (.ite ct cx cy)) := (ps_if ht ha hb).imp fun D σ H => by
  rintro ⟨φ,G,O,ρ,T,t,h⟩
  rw [denS] at h
  refine ⟨φ,G,O,ρ,T,t,Pc.imp (PF.br (k := fun b T => if b = true then denB C O cx ρ T else denB C O cy ρ T) h) ?_⟩
  rintro k H1 ⟨φ1,G1,T1,u,f1,s1,r1,h1⟩
  have r1 : k = u := r1
  subst r1
  cases k with
  | true => exact ⟨φ1,G1,O,ρ,T1,⟨s1,f1.lo t.l,t.n⟩,h1⟩
  | false => exact ⟨φ1,G1,O,ρ,T1,⟨s1,f1.lo t.l,t.n⟩,h1⟩
def JOk (ca : Nat → Addr) (J : It) (its : Its) (φ0 : List Addr) (G0 : Hp) (O : Cs) : Prop := ∀ φ G H T,Fut φ0 G0 φ G → Sd ca φ G H (O ++ T) → sameW O its.t T its.w = true →
  (∀ (i : Nat) (u : U),its.us[i]? = some u → J.go i H ∧ ∀ x H',J.yld i H x H' → Ex H H' ∧ ∃ G',Fut φ G φ G' ∧ Sd ca φ G' H' (O ++ T) ∧ RpU G' φ x u) ∧ J.stop its.us.length H
def IOk (ca : Nat → Addr) (φ : List Addr) (G : Hp) (O : Cs) (r : R Its) (K : It → Hp → Prop) : Prop := match r with
  | .ok its T0 => ∀ J φ' G' H',Fut φ G φ' G' → Sd ca φ' G' H' (O ++ T0) → JOk ca J its φ' G' O → K J H'
  | .exc _ _ _ => False
  | .fail => False
theorem IOk.later {r : R Its} {K : It → Hp → Prop} (f : Fut φ G φ' G') (h : IOk ca φ G O r K) : IOk ca φ' G' O r K := by
  cases r with
  | ok its T0 => exact fun J φ2 G2 H2 f2 s2 j => h J φ2 G2 H2 (f.trans f2) s2 j
  | exc => exact h
  | fail => exact h
def RI (ca : Nat → Addr) (C : Cn) (it : IT) : TI := fun σ H R => ∃ φ G O ρ T,At ca φ G H O T σ ρ ∧ IOk ca φ G O (denI C O ρ it T) R
theorem _root_.L2.PI.imp {X : Cx} {tg e : Expr} {t t' : TI} (h : PI X tg e t) (k : ∀ σ H Q,t' σ H Q → t σ H Q) : PI X tg e t' := ⟨fun pins s σ H R I q => h.run pins s σ H R I (k σ H R q)⟩
theorem loopF_c (body : U → Rho → Cs → F) (ok : Cs → Bool) (u : U) (us : List U) (ρ : Rho) (T : Cs) (h : ok T = true) : loopF body ok (u :: us) ρ T = match body u ρ T with
      | .nx ρ' T' => loopF body ok us ρ' T' | .ct ρ' T' => loopF body ok us ρ' T'
      | .bk ρ' T' => .nx ρ' T'
      | .rt u T' => .rt u T' | .exc c fs ρ T => .exc c fs ρ T | .fail => .fail := by
  rw [loopF,if_pos h]
  cases e : body u ρ T <;> simp only [e]
theorem ps_fo {tg e : Expr} {b : List Stmt} {g : Tg} {it : IT} {cb : CB} (hp : PassesOwn (model X.prog X.w) X.A X.env X.xe) (hc : X.calm = true) (hi : PI X tg e (RI ca C it)) (hg : PG X tg (RG ca g)) (hb : PSs X b (RBl ca C cb))
    (hs : ∀ x,foldedSetIterable e X.env x = pure x) : PS X (.For tg e b [] pos) (RS ca C (.for_ g it cb)) := (ps_for hp hc hi hg hb hs).imp fun D σ H => by
  rintro ⟨φ,G,O,ρ,T,t,h⟩
  rw [denS] at h
  refine ⟨φ,G,O,ρ,T,t, ?_⟩
  cases ei : denI C O ρ it T with
  | exc => rw [ei] at h; exact h
  | fail => rw [ei] at h; exact h
  | ok its T0 =>
    rw [ei] at h
    intro J φ1 G1 H1 f1 s1 jok
    generalize hbd : (fun u ρ T => match asgT O T g u ρ with
        | some ρ' => denB C O cb ρ' T
        | none => F.fail) = bd at h
    refine ⟨fun i m σ H => ∃ φ G ρ T,Fut φ1 G1 φ G ∧ At ca φ G H O T σ ρ ∧ m = its.us.length - i ∧ i ≤ its.us.length ∧ PF ca φ G O (loopF bd (fun T' => sameW O its.t T' its.w) (its.us.drop i) ρ T) D,
      ⟨its.us.length,φ1,G1,ρ,T0,Fut.refl,⟨s1,f1.lo t.l,t.n⟩,rfl,Nat.zero_le _,h.later f1⟩, ?_⟩
    rintro i m σ H ⟨φ,G,ρ,T,f,t,rfl,hi,h⟩
    by_cases hlt : i < its.us.length
    · rw [List.drop_eq_getElem_cons hlt] at h
      by_cases hw : sameW O its.t T its.w = true
      · rw [loopF_c _ _ _ _ _ _ hw] at h
        have jj := (jok φ G H T f t.s hw).1 i its.us[i] (List.getElem?_eq_getElem hlt)
        refine .inr ⟨jj.1,fun σ' H' => ∃ φ G ρ T,Fut φ1 G1 φ G ∧ At ca φ G H' O T σ' ρ ∧ PF ca φ G O (loopF bd (fun T' => sameW O its.t T' its.w) (its.us.drop (i + 1)) ρ T) D,
          fun σ' H' hh => ⟨its.us.length - (i + 1),by omega, ?_⟩,fun x H' hy => ?_⟩
        · obtain ⟨φ2,G2,ρ2,T2,a,b,c⟩ := hh
          exact ⟨φ2,G2,ρ2,T2,a,b,rfl,hlt,c⟩
        · obtain ⟨_,G2,f2,s2,r2⟩ := jj.2 x H' hy
          refine ⟨φ,G2,O,ρ,T,its.us[i],⟨s2,f2.lo t.l,t.n⟩,r2, ?_⟩
          rw [← hbd] at h
          simp only at h
          rw [hbd] at h
          cases ea : asgT O T g its.us[i] ρ with
          | none => rw [ea] at h; exact h
          | some ρ' =>
            rw [ea] at h
            simp only at h ⊢
            refine fun σ' t' _ => ⟨φ,G2,O,ρ',T,t', ?_⟩
            cases eb : denB C O cb ρ' T with
            | nx ρ2 T2 => rw [eb] at h; exact fun σ3 φ3 G3 H3 f3 t3 => ⟨φ3,G3,ρ2,T2,(f.trans f2).trans f3,t3,h.later (f2.trans f3)⟩
            | ct ρ2 T2 => rw [eb] at h; exact fun σ3 φ3 G3 H3 f3 t3 => ⟨φ3,G3,ρ2,T2,(f.trans f2).trans f3,t3,h.later (f2.trans f3)⟩
            | bk ρ2 T2 => rw [eb] at h; exact h.later f2
            | rt u T2 => rw [eb] at h; exact h.later f2
            | exc => rw [eb] at h; exact h
            | fail => rw [eb] at h; exact h
      · rw [loopF,if_neg hw] at h
        exact h.elim
    · have e : i = its.us.length := by omega
      subst e
      rw [List.drop_length,loopF] at h
      by_cases hw : sameW O its.t T its.w = true
      · rw [if_pos hw] at h
        exact .inl ⟨(jok φ G H T f t.s hw).2,h σ φ G H Fut.refl t⟩
      · rw [if_neg hw] at h
        exact h.elim
end
end Y
namespace Y
open PySem PySem.Spec L2
section
variable {ca : Nat → Addr} {φ φ' φ0 : List Addr} {G G' G0 H : Hp} {O T : Cs} {X : Cx} {K : PySem.W.Frag} {C : Cn} {σ : L2.St} {ρ : Rho} {D : Ends} {pos p apos cpos tpos : Pos} {a b e tg : Expr} {ea eb ec : CE}
theorem list_at {x : U} {v : V} {us : List U} {T0 : Cs} (r : RpU G0 φ0 v x) (e : seqL O T0 x = some us) {φ : List Addr} {G H' : Hp} {T' : Cs} (f : Fut φ0 G0 φ G) (s : Sd ca φ G H' (O ++ T')) (hw : sameW O T0 T' (watch x) = true) :
    ∃ a vs,v = .ref a ∧ Rd H' a (.lst vs) ∧ RpUs G φ vs us := by
  unfold seqL at e
  split at e
  · cases e
    cases r with
    | d r => cases r with | lst h1 h2 => exact ⟨_,_,rfl,s.ex.rd (f.ex.rd h1),f.us h2.up⟩
  · cases r with
    | ref hi =>
      split at e
      · rename_i hc
        cases e
        obtain ⟨vs,h1,h2⟩ := cell_at s (f.pre _ _ hi) (sameW_eq hw hc)
        exact ⟨_,vs,rfl,.inl h1,h2.up⟩
      · rename_i hc
        cases e
        obtain ⟨vs,h1,h2⟩ := cell_at s (f.pre _ _ hi) (sameW_eq hw hc)
        exact ⟨_,vs,rfl,.inl h1,h2⟩
      · cases e
  · cases e
theorem itl_ok {x : U} {us : List U} {T0 : Cs} {a : Addr} (r : RpU G0 φ0 (.ref a) x) (e : seqL O T0 x = some us) : JOk ca (Itl K a) ⟨us,watch x,T0⟩ φ0 G0 O := by
  intro φ G H' T' f s hw
  obtain ⟨a',vs,ea,h1,h2⟩ := list_at r e f s hw
  cases ea
  refine ⟨fun i u hu => ?_,⟨vs,.inl h1,Nat.le_of_eq h2.length⟩⟩
  obtain ⟨v',e1,e2⟩ := h2.get hu
  refine ⟨⟨vs,v',.inl h1,e1⟩,fun x' H2 hy => ?_⟩
  obtain ⟨rfl,hy⟩ := hy
  have := hy vs (.inl h1)
  rw [e1] at this
  cases this
  exact ⟨Ex.refl _,G,Fut.refl,s,e2⟩
theorem itt_ok {x : U} {us : List U} {T0 : Cs} {a : Addr} (r : RpU G0 φ0 (.ref a) x) (e : seqT x = some us) : JOk ca (Itt K a) ⟨us,none,T0⟩ φ0 G0 O := by
  intro φ G H' T' f s hw
  obtain ⟨a',vs,ea,h1,h2⟩ := seqT_ok s (f.u r) e
  cases ea
  have h1 : SqT K H' a vs := .inl (.inl h1)
  refine ⟨fun i u hu => ?_,⟨vs,h1,Nat.le_of_eq h2.length⟩⟩
  obtain ⟨v',e1,e2⟩ := h2.get hu
  refine ⟨⟨vs,v',h1,e1⟩,fun x' H2 hy => ?_⟩
  obtain ⟨rfl,hy⟩ := hy
  have := hy vs h1
  rw [e1] at this
  cases this
  exact ⟨Ex.refl _,G,Fut.refl,s,e2⟩
theorem rngU_get {lo c : Int} {n i : Nat} {u : U} (h : (rngU lo n c)[i]? = some u) : i < n ∧ u = .d (.int (lo + (i : Nat) * c)) := by
  unfold rngU at h
  rw [List.getElem?_map] at h
  by_cases hi : i < n
  · rw [List.getElem?_range hi] at h
    cases h
    exact ⟨hi,rfl⟩
  · rw [List.getElem?_eq_none (by simp; omega)] at h
    cases h
theorem rngU_len {lo c : Int} {n : Nat} : (rngU lo n c).length = n := by simp [rngU]
theorem itr_ok {lo : Int} {n : Nat} {T0 : Cs} : JOk ca (Itr lo n) ⟨rngU lo n 1,none,T0⟩ φ0 G0 O := by
  intro φ G H' T' f s hw
  refine ⟨fun i u hu => ?_,by show n ≤ (rngU lo n 1).length; rw [rngU_len]; exact Nat.le_refl n⟩
  obtain ⟨h1,rfl⟩ := rngU_get hu
  refine ⟨h1,fun x' H2 hy => ?_⟩
  obtain ⟨rfl,rfl⟩ := hy
  rw [Int.mul_one]
  exact ⟨Ex.refl _,G,Fut.refl,s,.d (.int _)⟩
theorem new_tup {φ : List Addr} {G H' : Hp} {S : Cs} {Tt : Addr} {vs : List V} {us : List U} (s : Sd ca φ G H' S) (nT : H' Tt = none) (r : RpUs G φ vs us) : Ex H' (upd H' Tt (.tup vs)) ∧ ∃ G',Fut φ G φ G' ∧ Sd ca φ G' (upd H' Tt (.tup vs)) S ∧ RpU G' φ (.ref Tt) (mkT us) := by
  refine ⟨Ex.new nT,upd G Tt (.tup vs),s.knowF nT,s.know nT,mkT_rp upd_same ((s.knowF nT).us r)⟩
theorem ite_ok {x : U} {us : List U} {T0 : Cs} {a : Addr} (r : RpU G0 φ0 (.ref a) x) (e : seqL O T0 x = some us) : JOk ca (Ite K a) ⟨us.zipIdx.map fun p => mkT [.d (.int (p.2 : Nat)),p.1],watch x,T0⟩ φ0 G0 O := by
  intro φ G H' T' f s hw
  obtain ⟨a',vs,ea,h1,h2⟩ := list_at r e f s hw
  cases ea
  refine ⟨fun i u hu => ?_,⟨vs,.inl h1,by simp [h2.length]⟩⟩
  simp only [List.getElem?_map,List.getElem?_zipIdx,Option.map_map,Option.map_eq_some_iff] at hu
  obtain ⟨w,hw',rfl⟩ := hu
  obtain ⟨v',e1,e2⟩ := h2.get hw'
  refine ⟨⟨vs,v',.inl h1,e1⟩,fun x' H2 hy => ?_⟩
  obtain ⟨Tt,x2,rfl,nT,rfl,hy⟩ := hy
  have := hy vs (.inl h1)
  rw [e1] at this
  cases this
  simp only [Function.comp,Nat.zero_add]
  exact new_tup s nT (.cons (.d (.int _)) (.cons e2 .nil))
theorem pi_li (h : PE X e (RE ca C ea)) : PI X tg e (RI ca C (.lst ea)) := (pi_list h).imp (by
  rintro σ H R ⟨φ,G,O,ρ,T,t,h⟩
  rw [denI] at h
  refine ⟨φ,G,O,ρ,T,t, ?_⟩
  cases e1 : den C O ρ ea T with
  | exc => rw [e1] at h; exact h
  | fail => rw [e1] at h; exact h
  | ok x T1 =>
    rw [e1] at h
    intro v φ1 G1 H1 f s r
    simp only [Y.R.bind_ok] at h
    cases e2 : seqL O T1 x with
    | none => rw [e2] at h; exact h.elim
    | some us =>
      rw [e2] at h
      obtain ⟨a,vs,rfl,ha,ra⟩ := seqL_ok s r e2
      exact ⟨a,rfl,⟨vs,.inl ha⟩,h _ φ1 G1 H1 f s (itl_ok r e2)⟩)
theorem pi_tu (h : PE X e (RE ca C ea)) : PI X tg e (RI ca C (.tup ea)) := (pi_tup h).imp (by
  rintro σ H R ⟨φ,G,O,ρ,T,t,h⟩
  rw [denI] at h
  refine ⟨φ,G,O,ρ,T,t, ?_⟩
  cases e1 : den C O ρ ea T with
  | exc => rw [e1] at h; exact h
  | fail => rw [e1] at h; exact h
  | ok x T1 =>
    rw [e1] at h
    intro v φ1 G1 H1 f s r
    simp only [Y.R.bind_ok] at h
    cases e2 : seqT x with
    | none => rw [e2] at h; exact h.elim
    | some us =>
      rw [e2] at h
      obtain ⟨a,vs,rfl,ha,ra⟩ := seqT_ok s r e2
      exact ⟨a,rfl,⟨vs,.inl (.inl ha)⟩,h _ φ1 G1 H1 f s (itt_ok r e2)⟩)
theorem rngOk_ok {i j : Int} (h : rngOk i j = true) : (-(2 ^ 62) ≤ i ∧ i < 2 ^ 62) ∧ -(2 ^ 62) ≤ j ∧ j < 2 ^ 62 := by
  simp only [rngOk,Bool.and_eq_true,decide_eq_true_eq] at h
  omega
theorem ri_one {it : IT} {f : Cs → U → Cs → R Its} (hc : ∀ O ρ T,denI C O ρ it T = (den C O ρ ea T).bind fun x T => f O x T) {R : It → Hp → Prop} (h : RI ca C it σ H R) :
    ∃ φ G O ρ T,At ca φ G H O T σ ρ ∧ Pc ca rUs φ G O (denA C O ρ (.cons ea .nil) T) (fun vs H1 => ∃ φ G T v u,vs = [v] ∧ Sd ca φ G H1 (O ++ T) ∧ RpU G φ v u ∧ IOk ca φ G O (f O u T) R) := by
  obtain ⟨φ,G,O,ρ,T,t,h⟩ := h
  rw [hc] at h
  refine ⟨φ,G,O,ρ,T,t, ?_⟩
  simp only [denA]
  cases e1 : den C O ρ ea T with
  | exc => rw [e1] at h; exact h
  | fail => rw [e1] at h; exact h
  | ok x T1 =>
    rw [e1] at h
    simp only [Y.R.bind_ok] at h ⊢
    intro vs φ1 G1 H1 ff s r
    obtain ⟨v,rfl,r1⟩ := RpUs.one r
    exact ⟨φ1,G1,T1,v,x,rfl,s,r1,h.later ff⟩
theorem pi_r1 (hg : Gl X "range") (hm : X.mg "range" = none) (ha : PA X [a] (RA ca C (.cons ea .nil))) (hs : starEach [a] X.env = [(false,eval a X.env)]) : PI X tg (.Call (.Name "range" p) [a] [] pos) (RI ca C (.rng1 ea)) :=
  (pi_range1 hg hm ha hs).imp (by
    intro σ H R h
    obtain ⟨φ,G,O,ρ,T,t,h⟩ := ri_one (ea := ea) (f := fun O x T => match x with | .d (.int j) => if rngOk 0 j then .ok ⟨rngU 0 j.toNat 1,none,T⟩ T else .fail | _ => .fail) (fun O ρ T => by rw [denI] <;> rfl) h
    refine ⟨φ,G,O,ρ,T,t,Pc.imp h ?_⟩
    rintro vs H1 ⟨φ1,G1,T1,v,u,rfl,s,r,h⟩
    split at h
    · split at h
      · rename_i hk
        have e1 := rp_int r
        subst e1
        have := rngOk_ok hk
        exact ⟨_,rfl,this.2.1,this.2.2,h _ φ1 G1 H1 Fut.refl s itr_ok⟩
      · exact h.elim
    · exact h.elim)
theorem pi_en {elts : List Expr} {kk : Nat} (hg : Gl X "enumerate") (hm : X.mg "enumerate" = none) (ha : PA X [a] (RA ca C (.cons ea .nil))) (hs : starEach [a] X.env = [(false,eval a X.env)]) : PI X (.Tuple elts kk tpos) (.Call (.Name "enumerate" p) [a] [] pos) (RI ca C (.enumL ea)) :=
  (pi_enum hg hm ha hs).imp (by
    intro σ H R h
    obtain ⟨φ,G,O,ρ,T,t,h⟩ := ri_one (ea := ea) (f := fun O x T => match seqL O T x with | some us => .ok ⟨us.zipIdx.map fun p => mkT [.d (.int (p.2 : Nat)),p.1],watch x,T⟩ T | none => .fail) (fun O ρ T => by rw [denI] <;> rfl) h
    refine ⟨φ,G,O,ρ,T,t,Pc.imp h ?_⟩
    rintro vs H1 ⟨φ1,G1,T1,v,u,rfl,s,r,h⟩
    cases e2 : seqL O T1 u with
    | none => rw [e2] at h; exact h.elim
    | some us =>
      rw [e2] at h
      obtain ⟨a,ys,rfl,hy,ry⟩ := seqL_ok s r e2
      exact ⟨a,ys,rfl,.inl hy,h _ φ1 G1 H1 Fut.refl s (ite_ok r e2)⟩)
end
end Y
namespace Y
open PySem PySem.Spec L2
section
variable {ca : Nat → Addr} {φ φ' φ0 : List Addr} {G G' G0 H : Hp} {O T : Cs} {X : Cx} {K : PySem.W.Frag} {C : Cn} {σ : L2.St} {ρ : Rho} {D : Ends} {pos p apos cpos tpos : Pos} {a b e tg : Expr} {ea eb ec : CE}
theorem Sd.recell {S : Cs} (s : Sd ca φ G H S) {i : Nat} {a : Addr} {c c' : Cell} (hi : φ[i]? = some a) (hc : S[i]? = some c) (hl : live c) (h : CellOk ca G φ H a c') : Sd ca φ G H (S.set i c') := by
  have lt := (List.getElem?_eq_some_iff.mp hc).1
  refine ⟨by simp [s.len],s.nd,s.ex,fun j b d h1 h2 h3 => ?_,s.kn,fun j b d h1 h2 => ?_⟩
  · by_cases e : j = i
    · subst e; rw [hi] at h1; cases h1; exact s.off _ _ _ hi hc hl
    · rw [List.getElem?_set_ne (Ne.symm e)] at h2; exact s.off j b d h1 h2 h3
  · by_cases e : j = i
    · subst e
      rw [hi] at h1; cases h1
      rw [List.getElem?_set_self lt] at h2; cases h2
      exact h
    · rw [List.getElem?_set_ne (Ne.symm e)] at h2; exact s.cell j b d h1 h2
theorem wipe_len (σ : L2.St) (vs : List Nat) : (wipe σ vs).length = σ.length := wipe_length σ vs
theorem set_wipe {σ : L2.St} {i : Nat} : ∀ {vs : List Nat},i ∈ vs → (wipe σ vs).set i none = wipe σ vs
  | [],h => by simp at h
  | v :: vs,h => by
    unfold wipe
    by_cases e : i = v
    · subst e; rw [List.set_set]
    · have hv : i ∈ vs := (List.mem_cons.mp h).resolve_left e
      rw [List.set_comm _ _ (fun z => e z.symm),set_wipe hv]
theorem wipe_sub {σ : L2.St} {ws : List Nat} : ∀ {vs : List Nat},(∀ i ∈ vs,i ∈ ws) → wipe (wipe σ ws) vs = wipe σ ws
  | [],_ => rfl
  | v :: vs,h => by
    show (wipe (wipe σ ws) vs).set v none = wipe σ ws
    rw [wipe_sub fun i hi => h i (List.mem_cons_of_mem _ hi),set_wipe (h v List.mem_cons_self)]
theorem wipe_wipe (σ : L2.St) (vs : List Nat) : wipe (wipe σ vs) vs = wipe σ vs := wipe_sub fun _ h => h
theorem wipeR_len (ρ : Rho) : ∀ vs : List Nat,(wipeR ρ vs).length = ρ.length
  | [] => rfl
  | v :: vs => by unfold wipeR; rw [List.length_set,wipeR_len ρ vs]
theorem wipeR_some {ρ : Rho} {i : Nat} {x : U} : ∀ {vs : List Nat},(wipeR ρ vs)[i]? = some (some x) → ρ[i]? = some (some x) ∧ i ∉ vs
  | [],h => ⟨h,by simp⟩
  | v :: vs,h => by
    unfold wipeR at h
    by_cases hi : v = i
    · subst hi
      by_cases hv : v < (wipeR ρ vs).length
      · rw [List.getElem?_set_self hv] at h; cases h
      · rw [List.getElem?_eq_none (by simpa using hv)] at h; cases h
    · rw [List.getElem?_set_ne hi] at h
      obtain ⟨h1,h2⟩ := wipeR_some h
      exact ⟨h1,by simp only [List.mem_cons,not_or]; exact ⟨fun e => hi e.symm,h2⟩⟩
theorem wipe_get {σ : L2.St} {i : Nat} : ∀ {vs : List Nat},i ∉ vs → (wipe σ vs)[i]? = σ[i]?
  | [],_ => rfl
  | v :: vs,h => by
    unfold wipe
    rw [List.getElem?_set_ne (fun e => h (by rw [e]; exact List.mem_cons_self)),wipe_get fun z => h (List.mem_cons_of_mem _ z)]
theorem At.wipe (t : At ca φ G H O T σ ρ) (vs : List Nat) : At ca φ G H O T (L2.wipe σ vs) (wipeR ρ vs) := by
  refine ⟨t.s,fun i u h => ?_,by rw [wipe_len,wipeR_len,t.n]⟩
  obtain ⟨h1,h2⟩ := wipeR_some h
  obtain ⟨v,e1,e2⟩ := t.l i u h1
  exact ⟨v,by rw [wipe_get h2]; exact e1,e2⟩
theorem pts_no : PTs X [] (RT ca C (.c (.bool true))) := ⟨fun pins s σ H Q I h => pts_nil.run pins s σ H Q I (by
  obtain ⟨φ,G,O,ρ,T,t,h⟩ := h
  rw [den] at h
  exact Pc.now (a := true) h t.s rfl)⟩
theorem to_comp {elt tst : CE} {g : Tg} {it : IT} {own : List Nat} {l : Bool} (hsl : ∀ i ∈ slotsT g,i ∈ own) :
    ∀ σ H Q,RE ca C (.comp l elt g it tst own) σ H Q → tLc (RI ca C it) (RG ca g) (RT ca C tst) (RE ca C elt) own σ H Q := by
  rintro σ H Q ⟨φ,G,O,ρ,T,t,h⟩
  rw [den] at h
  refine ⟨φ,G,O,ρ,T,t, ?_⟩
  cases ei : denI C O ρ it T with
  | exc => rw [ei] at h; exact h
  | fail => rw [ei] at h; exact h
  | ok its T0 =>
    rw [ei] at h
    rw [Y.R.bind_ok] at h
    intro J φ1 G1 H1 f1 s1 jok Dl nD
    generalize hel : (fun u T => match asgT O T g u (wipeR ρ own) with
        | some ρ' => (den C O ρ' tst T).bind fun b T => brB (asB b) ((den C O ρ' elt T).bind fun y T => Y.R.ok (some y) T) (Y.R.ok none T)
        | none => Y.R.fail) = el at h
    have s2 := s1.cellNew (o := .lst []) (c := .lstU []) nD ⟨[],upd_same,.nil⟩
    rw [List.append_assoc] at s2
    have hlen : φ1.length = O.length + T0.length := by rw [s1.len,List.length_append]
    refine ⟨fun i m H => ∃ φ G T',Fut φ1 G1 φ G ∧ Sd ca φ G H (O ++ T') ∧ φ[O.length + T0.length]? = some Dl ∧ m = its.us.length - i ∧ i ≤ its.us.length ∧
      Pc ca rU φ1 G1 O ((compC el (fun T' => sameW O its.t T' its.w) T0.length (its.us.drop i) T').bind fun _ T' => compE O l T0 T') Q,
      ⟨its.us.length,φ1 ++ [Dl],G1,T0 ++ [.lstU []],Sd.newF,s2,by rw [← hlen]; simp,rfl,Nat.zero_le _,by rw [List.drop_zero]; exact h.later f1⟩, ?_⟩
    rintro i m H ⟨φ,G,T',f,s,hD,rfl,hi,h⟩
    have idx : O.length + T0.length - O.length = T0.length := by omega
    by_cases hw : sameW O its.t T' its.w = true
    · by_cases hlt : i < its.us.length
      · rw [List.drop_eq_getElem_cons hlt,compC,if_pos hw,R.bind_bind] at h
        have jj := (jok φ G H T' f s hw).1 i its.us[i] (List.getElem?_eq_getElem hlt)
        refine .inr ⟨jj.1,fun H' => ∃ φ G T',Fut φ1 G1 φ G ∧ Sd ca φ G H' (O ++ T') ∧ φ[O.length + T0.length]? = some Dl ∧
          Pc ca rU φ1 G1 O ((compC el (fun T' => sameW O its.t T' its.w) T0.length (its.us.drop (i + 1)) T').bind fun _ T' => compE O l T0 T') Q,
          fun H' hh => ⟨its.us.length - (i + 1),by omega, ?_⟩,fun x H' hy => ?_⟩
        · obtain ⟨φ2,G2,T2,a,b,c,d⟩ := hh
          exact ⟨φ2,G2,T2,a,b,c,rfl,hlt,d⟩
        · obtain ⟨_,G2,f2,s2,r2⟩ := jj.2 x H' hy
          have t2 : At ca φ G2 H' O T' (L2.wipe σ own) (wipeR ρ own) := At.wipe ⟨s2,(f1.trans (f.trans f2)).lo t.l,t.n⟩ own
          refine ⟨φ,G2,O,wipeR ρ own,T',its.us[i],t2,r2, ?_⟩
          rw [← hel] at h
          simp only at h
          rw [hel] at h
          cases ea : asgT O T' g its.us[i] (wipeR ρ own) with
          | none => rw [ea] at h; exact h
          | some ρ' =>
            rw [ea] at h
            simp only at h ⊢
            intro σ2 t3 sb
            have ew : L2.wipe σ2 own = L2.wipe σ own := (sb own hsl).trans (wipe_wipe σ own)
            refine ⟨ew,φ,G2,O,ρ',T',t3, ?_⟩
            rw [R.bind_bind] at h
            simp only [brB_bind] at h
            refine Pc.imp (Pc.keepBr (k := fun b T => if b = true then ((den C O ρ' elt T).bind fun y T => Y.R.ok (some y) T).bind fun oy T' => ((putC T0.length oy T').bind fun _ T'' => compC el (fun T' => sameW O its.t T' its.w) T0.length (its.us.drop (i + 1)) T'').bind fun _ T' => compE O l T0 T'
              else ((putC T0.length none T).bind fun _ T'' => compC el (fun T' => sameW O its.t T' its.w) T0.length (its.us.drop (i + 1)) T'').bind fun _ T' => compE O l T0 T') h) ?_
            rintro k H3 ⟨φ3,G3,T3,k',f3,s3,r3,h3⟩
            have r3 : k = k' := r3
            subst r3
            cases k with
            | false =>
              rw [if_neg Bool.false_ne_true] at h3 ⊢
              exact ⟨φ3,G3,T3,f.trans (f2.trans f3),s3,f3.pre _ _ hD,h3⟩
            | true =>
              rw [if_pos rfl] at h3 ⊢
              rw [R.bind_bind] at h3
              refine ⟨φ3,G3,O,ρ',T3,⟨s3,f3.lo t3.l,t3.n⟩,Pc.imp h3.keep ?_⟩
              rintro y H4 ⟨φ4,G4,T4,u4,f4,s4,r4,h4⟩
              have hD4 := f4.pre _ _ (f3.pre _ _ hD)
              rw [Y.R.bind_ok] at h4
              unfold putC at h4
              cases ec : T4[T0.length]? with
              | none => simp only [ec] at h4; exact h4.elim
              | some c =>
                have ecS : (O ++ T4)[O.length + T0.length]? = some c := by
                  rw [List.getElem?_append_right (by omega),idx]; exact ec
                cases c with
                | lstU acc =>
                  simp only [ec] at h4
                  obtain ⟨vs,h1,h2⟩ := s4.cell _ _ _ hD4 ecS
                  by_cases hz : sizeOk acc.length = true
                  · rw [if_pos hz,Y.R.bind_ok] at h4
                    have hz := sizeOk_le hz
                    rw [← h2.length] at hz
                    refine ⟨vs,h1,sz_lt hz,φ4,G4,T4.set T0.length (.lstU (acc ++ [u4])),f.trans (f2.trans (f3.trans f4)), ?_,hD4,h4⟩
                    have := s4.write (o := .lst (vs ++ [y])) (c' := .lstU (acc ++ [u4])) hD4 ecS trivial ⟨_,upd_same,h2.append (.cons r4 .nil)⟩
                    rw [set_own _ _ _ _ (by omega),idx] at this
                    exact this
                  · rw [if_neg hz] at h4
                    exact h4.elim
                | lst _ => simp only [ec] at h4; exact h4.elim
                | dct _ => simp only [ec] at h4; exact h4.elim
                | dctU _ => simp only [ec] at h4; exact h4.elim
                | dctL _ => simp only [ec] at h4; exact h4.elim
                | ins _ _ => simp only [ec] at h4; exact h4.elim
                | exn _ _ => simp only [ec] at h4; exact h4.elim
                | dctS _ => simp only [ec] at h4; exact h4.elim
                | dead => simp only [ec] at h4; exact h4.elim
      · have e : i = its.us.length := by omega
        subst e
        rw [List.drop_length,compC,if_pos hw] at h
        refine .inl ⟨(jok φ G H T' f s hw).2, ?_⟩
        have h : Pc ca rU φ1 G1 O (compE O l T0 T') Q := h
        unfold compE at h
        cases ec : T'[T0.length]? with
        | none => simp only [ec] at h; exact h.elim
        | some c =>
          have ecS : (O ++ T')[O.length + T0.length]? = some c := by
            rw [List.getElem?_append_right (by omega),idx]; exact ec
          cases c with
          | lstU acc =>
            simp only [ec] at h
            obtain ⟨vs,h1,h2⟩ := s.cell _ _ _ hD ecS
            cases l with
            | true =>
              rw [if_pos rfl] at h
              have s' := s.recell hD ecS trivial (cellOf_ok h1 h2)
              rw [set_own _ _ _ _ (by omega),idx] at s'
              exact h _ φ G H f s' (.ref hD)
            | false =>
              rw [if_neg Bool.false_ne_true] at h
              cases ed : allD acc with
              | none => simp only [ed] at h; exact h.elim
              | some ds =>
                simp only [ed] at h
                have h3 := h2.down ed
                have s' := s.freeze (o := .lst vs) hD ecS trivial h1
                have ff := s.freezeF (o := .lst vs) hD ecS trivial
                rw [set_own _ _ _ _ (by omega),idx] at s'
                split at h
                · rename_i hb
                  simp only [Bool.and_eq_true,decide_eq_true_eq] at hb
                  have e1 := beqCs_eq _ _ hb.1
                  have e2 : T'.set T0.length .dead = T0 ++ [.dead] := by
                    have lt : T0.length < T'.length := by omega
                    have e3 : T' = T0 ++ [T'[T0.length]] := by
                      conv => lhs; rw [← List.take_append_drop T0.length T']
                      rw [e1,List.drop_eq_getElem_cons lt,List.drop_eq_nil_of_le (by omega)]
                    rw [e3]
                    rw [List.set_append_right (h := Nat.le_refl _)]
                    simp
                  rw [e2,← List.append_assoc] at s'
                  have f' : Fut φ1 G1 φ (upd G Dl (.lst vs)) := f.trans ff
                  have s0 : Sd ca φ1 (upd G Dl (.lst vs)) H (O ++ T0) := Sd.drop s1 f' s'
                  have r0 : Rp (upd G Dl (.lst vs)) (.ref Dl) (.list ds) := .lst (.inl upd_same) (Rps.mono ff.ex _ _ h3)
                  exact h _ φ1 _ _ ⟨fun _ _ z => z,f'.ex⟩ s0 (.d r0)
                · exact h _ φ _ _ (f.trans ff) s' (.d (.lst (.inl upd_same) (Rps.mono ff.ex _ _ h3)))
          | lst _ => simp only [ec] at h; exact h.elim
          | dct _ => simp only [ec] at h; exact h.elim
          | dctU _ => simp only [ec] at h; exact h.elim
          | dctL _ => simp only [ec] at h; exact h.elim
          | ins _ _ => simp only [ec] at h; exact h.elim
          | exn _ _ => simp only [ec] at h; exact h.elim
          | dctS _ => simp only [ec] at h; exact h.elim
          | dead => simp only [ec] at h; exact h.elim
    · cases hd : its.us.drop i with
      | nil => rw [hd,compC,if_neg hw] at h; exact h.elim
      | cons u us => rw [hd,compC,if_neg hw] at h; exact h.elim
end
end Y
namespace Y
open PySem PySem.Spec L2
section
variable {ca : Nat → Addr} {φ φ' φ0 : List Addr} {G G' G0 H : Hp} {O T : Cs} {X : Cx} {K : PySem.W.Frag} {C : Cn} {σ : L2.St} {ρ : Rho} {D : Ends} {pos p apos cpos tpos : Pos} {a b e tg o i : Expr} {ea eb ec eo : CE} {as : CA} {es : List Expr}
def spR (ca : Nat → Addr) (call : Cs → Nat → List U → Cs → R U) (f np : Nat) : Sp := fun vs H Q _ => ∃ φ G O T us,us.length = np ∧ Sd ca φ G H (O ++ T) ∧ RpUs G φ vs us ∧ Pc ca rU φ G O (call O f us T) Q
theorem callP_ok {f : Nat} {vs : List V} {us : List U} {np : Nat} {Q : VK} {E : XK} (hn : us.length = np) (h : Pc ca rU φ0 G0 O (callP C O f us T) Q) (ff : Fut φ0 G0 φ G) (s : Sd ca φ G H (O ++ T)) (r : RpUs G φ vs us) : spR ca C.call f np vs H Q E := by
  refine ⟨φ,G,O ++ T,[],us,hn,by rw [List.append_nil]; exact s,r, ?_⟩
  unfold callP at h
  cases e : C.call (O ++ T) f us [] with
  | exc => rw [e] at h; exact h
  | fail => rw [e] at h; exact h
  | ok u T' =>
    rw [e] at h
    intro v φ' G' H' f1 s' r'
    have h := h.later ff
    have s0 : Sd ca φ G' H' (O ++ T) := Sd.drop s f1 s'
    cases u with
    | d x =>
      cases r' with
      | d r' => exact h v φ G' H' ⟨fun _ _ z => z,f1.ex⟩ s0 (.d r')
    | tup us => exact h.elim
    | ref i =>
      simp only at h
      split at h
      · rename_i hi
        cases ec : getC (O ++ T) T' i with
        | none => simp only [ec] at h; exact h.elim
        | some c =>
          cases c with
          | lst ds =>
            simp only [ec] at h
            cases r' with
            | ref hr =>
              have ec2 := ec
              rw [getC_eq] at ec2
              obtain ⟨ws,h1,h2⟩ := s'.cell _ _ _ hr ec2
              have s2 := s'.freeze (o := .lst ws) hr ec2 trivial h1
              have f2 := s'.freezeF (o := .lst ws) hr ec2 trivial
              rw [set_own _ _ _ _ (by rw [List.length_append]; exact hi)] at s2
              have f3 := f1.trans f2
              exact h _ φ _ _ ⟨fun _ _ z => z,f3.ex⟩ (Sd.drop s f3 s2) (.d (.lst (.inl upd_same) (Rps.mono f2.ex _ _ h2)))
          | lstU _ => simp only [ec] at h; exact h.elim
          | dct _ => simp only [ec] at h; exact h.elim
          | dctU _ => simp only [ec] at h; exact h.elim
          | dctL _ => simp only [ec] at h; exact h.elim
          | ins _ _ => simp only [ec] at h; exact h.elim
          | exn _ _ => simp only [ec] at h; exact h.elim
          | dctS _ => simp only [ec] at h; exact h.elim
          | dead => simp only [ec] at h; exact h.elim
      · exact h.elim
theorem callL_ok {f : Nat} {vs : List V} {us : List U} {np : Nat} {Q : VK} {E : XK} (hn : us.length = np) (h : Pc ca rU φ0 G0 O (C.call O f us T) Q) (ff : Fut φ0 G0 φ G) (s : Sd ca φ G H (O ++ T)) (r : RpUs G φ vs us) : spR ca C.call f np vs H Q E :=
  ⟨φ,G,O,T,us,hn,s,r,h.later ff⟩
theorem dv_ok {ds : List Y.D} {dvs : List V} (h : ∀ G,Rps G dvs ds) : RpUs G φ dvs (ds.map .d) := (h G).up
theorem to_call {f np : Nat} {l : Bool} {ds : List Y.D} {dvs : List V} {E : XK} (hd : ∀ G,Rps G dvs ds) (hlen : ∀ O us T,us.length ≠ np → C.call O f us T = .fail) :
    ∀ σ H Q,RE ca C (.call l f as ds) σ H Q → tCall (spR ca C.call f np) dvs E (RA ca C as) σ H Q := by
  rintro σ H Q ⟨φ,G,O,ρ,T,t,h⟩
  rw [den] at h
  refine ⟨φ,G,O,ρ,T,t,Pc.imp h.bind ?_⟩
  rintro vs H1 ⟨φ1,G1,T1,us,f1,s1,r1,h1⟩
  have r2 : RpUs G1 φ1 (vs ++ dvs) (us ++ ds.map U.d) := RpUs.append r1 (dv_ok hd)
  by_cases hn : (us ++ ds.map U.d).length = np
  · cases l with
    | true => rw [if_pos rfl] at h1; exact callL_ok hn h1 Fut.refl s1 r2
    | false => rw [if_neg Bool.false_ne_true] at h1; exact callP_ok hn h1 Fut.refl s1 r2
  · cases l with
    | true => rw [if_pos rfl,hlen _ _ _ hn] at h1; exact h1.elim
    | false =>
      rw [if_neg Bool.false_ne_true] at h1
      unfold callP at h1
      rw [hlen _ _ _ hn] at h1
      exact h1.elim
theorem RpF.look : ∀ {ws : List (Str × V)} {fs : List (Str × U)} (f : Str),RpF G φ ws fs → (fs.lookup f = none ∧ ws.lookup f = none) ∨ ∃ u v,fs.lookup f = some u ∧ ws.lookup f = some v ∧ RpU G φ v u
  | _,_,f,.nil => .inl ⟨rfl,rfl⟩
  | _,_,f,.cons (k := k) h t => by
    simp only [List.lookup_cons]
    cases e : f == k with
    | true => exact .inr ⟨_,_,rfl,rfl,h⟩
    | false => exact RpF.look f t
theorem RpF.len : ∀ {ws : List (Str × V)} {fs : List (Str × U)},RpF G φ ws fs → ws.length = fs.length
  | _,_,.nil => rfl
  | _,_,.cons _ t => by simp [RpF.len t]
theorem RpF.put {v : V} {u : U} (r : RpU G φ v u) (f : Str) : ∀ {ws : List (Str × V)} {fs : List (Str × U)},RpF G φ ws fs → RpF G φ (putF f v ws) (putFU f u fs)
  | _,_,.nil => .cons r .nil
  | _,_,.cons (k := k) h t => by
    unfold putF putFU
    by_cases e : k = f
    · rw [if_pos e,if_pos e]; exact .cons r t
    · rw [if_neg e,if_neg e]; exact .cons h (RpF.put r f t)
def rSet3 (ca : Nat → Addr) : TSet := fun ov iv vv H Q => ∃ φ G O T uo ui uv,Sd ca φ G H (O ++ T) ∧ RpU G φ ov uo ∧ RpU G φ iv ui ∧ RpU G φ vv uv ∧ Pc ca rU φ G O (setiU O uo ui uv T) (fun _ H' => Q H')
theorem RpK.put {v : V} {u : U} (r : RpU G φ v u) (k : Ky) {ws : List (List Key × V)} {kvs : List (Ky × U)} (h : RpK G φ ws kvs) : RpK G φ (L2.putK ws k v) (Y.putK kvs k u) := by
  unfold L2.putK Y.putK
  have e : ∀ {ws : List (List Key × V)} {kvs : List (Ky × U)},RpK G φ ws kvs → (ws.any fun kv => decide (kv.1 = k)) = kvs.any fun p => decide (p.1 = k) := by
    intro ws kvs h
    induction h with
    | nil => rfl
    | cons h t ih => simp [List.any_cons,ih]
  rw [e h]
  have m : ∀ {ws : List (List Key × V)} {kvs : List (Ky × U)},RpK G φ ws kvs → RpK G φ (ws.map fun kv => if kv.1 = k then (kv.1,v) else kv) (kvs.map fun p => if p.1 = k then (p.1,u) else p) := by
    intro ws kvs h
    induction h with
    | nil => exact .nil
    | @cons k' v' u' ws kvs h t ih =>
      simp only [List.map_cons]
      by_cases e : k' = k
      · rw [if_pos e,if_pos e]; exact .cons r ih
      · rw [if_neg e,if_neg e]; exact .cons h ih
  have ap : ∀ {ws : List (List Key × V)} {kvs : List (Ky × U)},RpK G φ ws kvs → RpK G φ (ws ++ [(k,v)]) (kvs ++ [(k,u)]) := by
    intro ws kvs h
    induction h with
    | nil => exact .cons r .nil
    | cons h t ih => exact .cons h ih
  by_cases hb : (kvs.any fun p => decide (p.1 = k)) = true
  · rw [if_pos hb,if_pos hb]; exact m h
  · rw [if_neg hb,if_neg hb]; exact ap h
theorem putK_mapD (kvs : List (Ky × Y.D)) (k : Ky) (x : Y.D) : (Y.putK kvs k x).map (fun p => (p.1,U.d p.2)) = Y.putK (kvs.map fun p => (p.1,U.d p.2)) k (.d x) := by
  unfold Y.putK
  rw [List.any_map]
  have e : ((fun p : Ky × U => decide (p.1 = k)) ∘ fun p : Ky × Y.D => (p.1,U.d p.2)) = fun p => decide (p.1 = k) := rfl
  rw [e]
  by_cases hb : (kvs.any fun p => decide (p.1 = k)) = true
  · rw [if_pos hb,if_pos hb,List.map_map,List.map_map]
    congr 1
    funext p
    simp only [Function.comp]
    by_cases h : p.1 = k
    · rw [if_pos h,if_pos h]
    · rw [if_neg h,if_neg h]
  · rw [if_neg hb,if_neg hb,List.map_append]
    rfl
theorem set_any (hu : X.A.units + 65 < cLine) : PSet X (rSet3 ca) := by
  rintro pins s σ H o i v ov iv u Q I ro ri rv ⟨φ,G,O,T,uo,ui,uv,sd,r1,r2,r3,h⟩
  unfold setiU at h
  split at h
  · cases r1 with
    | ref hi =>
      split at h
      · rename_i ds hc
        obtain ⟨vs,h1,h2⟩ := cell_at sd hi hc
        split at h
        · have := rp_int r2; subst this
          split at h
          · rename_i j hj
            rw [← h2.length] at hj
            split at h
            · cases r3 with
              | d r3 =>
                have h3 : ∀ x,Rp G v x → Rps G (vs.set j v) (ds.set j x) := fun x r => by
                  have := (h2.up (φ := φ)).set (.d r) j
                  rw [← List.map_set] at this
                  exact this.downD
                exact set_list pins s σ H _ _ _ _ _ _ _ I ro ri rv ⟨_,vs,_,j,rfl,rfl,h1,hj,setC_ok h sd hi hc live_lst ⟨_,upd_same,h3 _ r3⟩⟩
            · exact set_list pins s σ H _ _ _ _ _ _ _ I ro ri rv ⟨_,vs,_,j,rfl,rfl,h1,hj,setC_ok h sd hi hc live_lst ⟨_,upd_same,h2.up.set r3 j⟩⟩
          · exact h.elim
        · exact h.elim
      · rename_i ds hc
        obtain ⟨vs,h1,h2⟩ := cell_at sd hi hc
        split at h
        · have := rp_int r2; subst this
          split at h
          · rename_i j hj
            rw [← h2.length] at hj
            exact set_list pins s σ H _ _ _ _ _ _ _ I ro ri rv ⟨_,vs,_,j,rfl,rfl,h1,hj,setC_ok h sd hi hc live_lstU ⟨_,upd_same,h2.set r3 j⟩⟩
          · exact h.elim
        · exact h.elim
      · rename_i kvs hc
        obtain ⟨ws,h1,h2⟩ := cell_at sd hi hc
        split at h
        · rename_i k hk
          obtain ⟨b,rfl,hb⟩ := keyU_ok sd r2 hk
          split at h
          · rename_i hz
            have hz := sizeOk_le hz
            have hl : ws.length ≤ 1000000 := by rw [h2.length]; simpa using hz
            split at h
            · cases r3 with
              | d r3 =>
                obtain rfl : ov = Value.ref _ := ro
                refine d_setItem (by omega) I (DPut.t h1 hb (sz_lt hl)) ri rv fun s' I' => ⟨_,I',setC_ok h sd hi hc trivial ⟨_,upd_same, ?_⟩⟩
                rw [putK_mapD]
                exact h2.put (.d r3) k
            · split at h
              · rename_i he
                have e0 : kvs = [] := by simpa using he
                subst e0
                cases h2
                obtain rfl : ov = Value.ref _ := ro
                exact d_setItem (by omega) I (DPut.t h1 hb (sz_lt hl)) ri rv fun s' I' => ⟨_,I',setC_ok h sd hi hc trivial ⟨_,upd_same,.cons r3 .nil⟩⟩
              · exact h.elim
          · exact h.elim
        · exact h.elim
      · rename_i kvs hc
        obtain ⟨ws,h1,h2⟩ := cell_at sd hi hc
        split at h
        · rename_i k hk
          obtain ⟨b,rfl,hb⟩ := keyU_ok sd r2 hk
          split at h
          · rename_i hz
            have hz := sizeOk_le hz
            have hl : ws.length ≤ 1000000 := by rw [h2.length]; exact hz
            obtain rfl : ov = Value.ref _ := ro
            exact d_setItem (by omega) I (DPut.t h1 hb (sz_lt hl)) ri rv fun s' I' => ⟨_,I',setC_ok h sd hi hc trivial ⟨_,upd_same,h2.put r3 k⟩⟩
          · exact h.elim
        · exact h.elim
      · exact h.elim
  · exact h.elim
theorem to_seti : ∀ D σ H,RS ca C (.seti eo ec ea) D σ H → tAsg (RE ca C ea) (gSub (RE ca C eo) (RE ca C ec) (rSet3 ca)) D σ H := by
  rintro D σ H ⟨φ,G,O,ρ,T,t,h⟩
  rw [denS] at h
  refine ⟨φ,G,O,ρ,T,t,Pc.imp h.of ?_⟩
  rintro v H1 ⟨φ1,G1,T1,u,f1,s1,r1,h1⟩
  refine ⟨φ1,G1,O,ρ,T1,⟨s1,f1.lo t.l,t.n⟩,Pc.imp h1.of ?_⟩
  rintro x H2 ⟨φ2,G2,T2,w,f2,s2,r2,h2⟩
  refine ⟨φ2,G2,O,ρ,T2,⟨s2,(f1.trans f2).lo t.l,t.n⟩,Pc.imp h2.of ?_⟩
  rintro y H3 ⟨φ3,G3,T3,z,f3,s3,r3,h3⟩
  refine ⟨φ3,G3,O,T3,w,z,u,s3,f3.u r2,r3,(f2.trans f3).u r1,Pc.imp h3.of ?_⟩
  rintro vv H4 ⟨φ4,G4,T4,q,f4,s4,r4,h4⟩
  exact h4 σ φ4 G4 H4 Fut.refl ⟨s4,(f1.trans (f2.trans (f3.trans f4))).lo t.l,t.n⟩
theorem to_frz : ∀ σ H Q,RE ca C (.frz ea) σ H Q → RE ca C ea σ H Q := by
  rintro σ H Q ⟨φ,G,O,ρ,T,t,h⟩
  rw [den] at h
  refine ⟨φ,G,O,ρ,T,t,Pc.imp h.bind ?_⟩
  rintro v H1 ⟨φ1,G1,T1,u,f1,s1,r1,h1⟩
  unfold frzU at h1
  split at h1
  · split at h1
    · rename_i ds hc
      cases r1 with
      | ref hi =>
        obtain ⟨vs,h2,h3⟩ := cell_at s1 hi hc
        unfold setC at h1
        split at h1
        · rename_i hb
          have hc' := hc
          rw [getC_eq] at hc'
          have s' := s1.freeze (o := .lst vs) hi hc' trivial h2
          have ff := s1.freezeF (o := .lst vs) hi hc' trivial
          rw [set_own _ _ _ _ hb.1] at s'
          exact h1 _ φ1 _ H1 ff s' (.d (.lst (.inl upd_same) (Rps.mono ff.ex _ _ h3)))
        · exact h1.elim
    · exact h1.elim
  · exact Pc.now h1 s1 r1
def RP (ca : Nat → Addr) (C : Cn) (c : CE) : TO := fun σ H Q => ∃ φ G O ρ T,At ca φ G H O T σ ρ ∧ Pc ca (fun _ _ (a b : Option Int) => a = b) φ G O (if isSkip c then .ok none T else (den C O ρ c T).bind fun l T => partU l T) Q
theorem po_sk : PO X none (RP ca C .skip) := ⟨fun pins s σ H Q I h => po_none.run pins s σ H Q I (by
  obtain ⟨φ,G,O,ρ,T,t,h⟩ := h
  exact Pc.now (a := none) h t.s rfl)⟩
theorem po_e (h : PE X e (RE ca C ec)) (hs : isSkip ec = false) : PO X (some e) (RP ca C ec) := ⟨fun pins s σ H Q I q => (po_some h).run pins s σ H Q I (by
  obtain ⟨φ,G,O,ρ,T,t,q⟩ := q
  rw [hs,if_neg Bool.false_ne_true] at q
  refine ⟨φ,G,O,ρ,T,t,Pc.imp q.bind ?_⟩
  rintro v H1 ⟨φ1,G1,T1,u,f1,s1,r1,h1⟩
  unfold partU at h1
  split at h1
  · have := rp_int r1
    exact ⟨_,this,Pc.now h1 s1 rfl⟩
  · exact h1.elim)⟩
theorem to_slc {l : Bool} : ∀ σ H Q,RE ca C (.slc l ea eb ec) σ H Q → tSl (rSl ca l) (RE ca C ea) (RP ca C eb) (RP ca C ec) σ H Q := by
  rintro σ H Q ⟨φ,G,O,ρ,T,t,h⟩
  rw [den] at h
  refine ⟨φ,G,O,ρ,T,t,Pc.imp h.bind ?_⟩
  rintro v H1 ⟨φ1,G1,T1,u,f1,s1,r1,h1⟩
  refine ⟨φ1,G1,O,ρ,T1,⟨s1,f1.lo t.l,t.n⟩,Pc.imp h1.bind ?_⟩
  rintro lo H2 ⟨φ2,G2,T2,w,f2,s2,r2,h2⟩
  have r2 : lo = w := r2
  subst r2
  refine ⟨φ2,G2,O,ρ,T2,⟨s2,(f1.trans f2).lo t.l,t.n⟩,Pc.imp h2.bind ?_⟩
  rintro hi H3 ⟨φ3,G3,T3,w,f3,s3,r3,h3⟩
  have r3 : hi = w := r3
  subst r3
  exact ⟨φ3,G3,O,T3,u,s3,(f2.trans f3).u r1,h3⟩
def tyL (K : PySem.W.Frag) (N : String) (x : V) (H : Hp) : Prop := tyV K N x H ∨ N = "dict" ∧ ∃ p o kvs,x = .ref p ∧ H p = some (.frz o (.dT kvs))
theorem tyL_is {pins : List (Addr × Obj)} {σ : L2.St} {s : Shared} {N : String} {x : V} {v : Value} (I : Inv X pins σ H s) (r : RelV x v) (ty : tyL X.K N x H) : s.TypeIs v N ∧ ∀ a,v = .ref a → ∃ ob,s.heap.get? a = some ob ∧ ob.dict = none := by
  rcases ty with h | ⟨rfl,q,o,kvs,rfl,hp⟩
  · exact tyV_is I r h
  · cases (show v = Value.ref q from r)
    obtain ⟨_,_,_,_,_,ob,_,_,e,ex,_⟩ := I.hok q _ hp
    refine ⟨⟨ob,e,ex.1⟩,fun a e2 => ?_⟩
    cases e2
    exact ⟨ob,e,ex.2.1⟩
def tML (K : PySem.W.Frag) (N : String) (r : V → List V → Hp → VK → Prop) (to : TE) (t : TA) : TE := fun σ H Q => to σ H fun x H1 => tyL K N x H1 ∧ t σ H1 fun xs H2 => r x xs H2 Q
theorem pe_mL {name : Str} {N id : String} {r : V → List V → Hp → VK → Prop} {to : TE} {t : TA} (pa : PlainAttrs N) (slot : Slot N name id) (hty : typeOf (.builtin id) = pure (.type "method_descriptor")) (hm : MtR X id r) (ho : PE X o to) (ha : PA X (e :: es) t)
    (hbase : attributeBase o name X.env (eval o X.env) = eval o X.env := by rfl)
    (hfew : ((backTo cpos (starEach (e :: es) X.env)).all (fun x => !x.1) && (backToKw cpos (keywordEach [] X.env)).all (fun x => x.1.isSome)
      && decide ((e :: es).length + ([] : List Keyword).length + (if ([] : List Keyword).isEmpty then 0 else 1) < 30)) = true := by rfl)
    (hline : (apos.endLine == cpos.line) = true := by rfl) (hs : starEach (e :: es) X.env = (false,eval e X.env) :: starEach es X.env := by rfl) (hplain : (backTo cpos (starEach es X.env)).any (·.1) = false := by rfl) :
    PE X (.Call (.Attribute o name apos) (e :: es) [] cpos) (tML X.K N r to t) := by
  refine ⟨fun pins s σ H Q I h => ?_⟩
  refine wpAny_Call_method_late hbase hfew hline rfl (thn (ho.run pins s σ H _ I h) fun v s1 ⟨x,H1,I1,r1,ty,q1⟩ => ?_)
  obtain ⟨h1,h2⟩ := tyL_is I1 r1 ty
  refine ⟨N,id,pa,slot,hty,h1,h2, ?_⟩
  have hA := ha.run cpos pins s1 σ H1 _ I1 q1
  rw [hs] at hA ⊢
  refine Calls.callWith_builtin (by show (false || (backTo cpos (starEach es X.env)).any (·.1)) = false; rw [hplain] <;> rfl) (Calls.evalArgs_plain ?_)
  exact thn hA fun us s2 ⟨vs,H2,I2,r2,q2⟩ => hm pins s2 σ H2 x vs v us Q I2 r1 r2 q2
theorem tyM_is (s : Sd ca φ G H (O ++ T)) {u : U} {v : V} {m : MT} (r : RpU G φ v u) (hm : mtTy m ≠ .tuple) (e : tyM O T u = some (mtTy m)) : tyL K (tyS (mtTy m)) v H := by
  cases em : mtTy m with
  | list =>
    rw [em] at e
    cases u with
    | d x =>
      cases x <;> simp only [tyM,tyU,Option.some.injEq,reduceCtorEq] at e
      cases r with
      | d r => cases r with | lst h1 h2 => exact .inl (.inl ⟨rfl,_,.inl (s.ex.rd h1)⟩)
    | tup us => simp [tyM,tyU] at e
    | ref i =>
      simp only [tyM] at e
      cases r with
      | ref hi =>
        split at e
        · rename_i hc; obtain ⟨vs,h1,_⟩ := cell_at s hi hc; exact .inl (.inl ⟨rfl,_,.inl (.inl h1)⟩)
        · rename_i hc; obtain ⟨vs,h1,_⟩ := cell_at s hi hc; exact .inl (.inl ⟨rfl,_,.inl (.inl h1)⟩)
        · cases e
        · cases e
        · cases e
        · cases e
        · cases e
  | dict =>
    rw [em] at e
    cases u with
    | d x => cases x <;> simp [tyM,tyU] at e
    | tup us => simp [tyM,tyU] at e
    | ref i =>
      simp only [tyM] at e
      cases r with
      | ref hi =>
        split at e
        · cases e
        · cases e
        · rename_i hc; obtain ⟨vs,h1,_⟩ := cell_at s hi hc; exact .inl (.inr (.inr (.inl ⟨rfl,.inr ⟨_,h1⟩⟩)))
        · rename_i hc; obtain ⟨vs,h1,_⟩ := cell_at s hi hc; exact .inl (.inr (.inr (.inl ⟨rfl,.inr ⟨_,h1⟩⟩)))
        · rename_i hc; obtain ⟨od,ws,h1,_⟩ := cell_at s hi hc; exact .inr ⟨rfl,_,_,_,rfl,s.ex _ _ h1⟩
        · rename_i hc; exact .inl (.inr (.inr (.inl ⟨rfl,.inl ⟨_,cell_at s hi hc⟩⟩)))
        · cases e
  | str =>
    rw [em] at e
    cases u with
    | d x =>
      cases x <;> simp only [tyM,tyU,Option.some.injEq,reduceCtorEq] at e
      cases r with
      | d r => cases r; exact .inl rfl
    | tup us => simp [tyM,tyU] at e
    | ref i =>
      simp only [tyM] at e
      split at e <;> cases e
  | tuple => exact absurd em hm
  | non => cases m <;> simp [mtTy] at em
  | bool => cases m <;> simp [mtTy] at em
  | int => cases m <;> simp [mtTy] at em
theorem to_mt {l : Bool} {m : MT} (hm : mtTy m ≠ .tuple) : ∀ σ H Q,RE ca C (.mt l m eo as) σ H Q → tML K (tyS (mtTy m)) (rMt ca l m) (RE ca C eo) (RA ca C as) σ H Q := by
  rintro σ H Q ⟨φ,G,O,ρ,T,t,h⟩
  rw [den] at h
  refine ⟨φ,G,O,ρ,T,t,Pc.imp h.bind ?_⟩
  rintro v H1 ⟨φ1,G1,T1,u,f1,s1,r1,h1⟩
  by_cases hk : tyM O T1 u = some (mtTy m)
  · rw [if_pos hk] at h1
    refine ⟨tyM_is s1 r1 hm hk,φ1,G1,O,ρ,T1,⟨s1,f1.lo t.l,t.n⟩,Pc.imp h1.bind ?_⟩
    rintro vs H2 ⟨φ2,G2,T2,us,f2,s2,r2,h2⟩
    exact ⟨φ2,G2,O,T2,u,us,s2,f2.u r1,r2,h2⟩
  · rw [if_neg hk] at h1; exact h1.elim
theorem to_bi {l : Bool} {b : BI} : ∀ σ H Q,RE ca C (.bi l b as) σ H Q → tCB (rBi ca l b) (RA ca C as) σ H Q := to_opA fun _ _ _ => by rw [den]
theorem to_isi {l : Bool} {b : BI} {t : Ty} (ht : isiB b = some t) : ∀ σ H Q,RE ca C (.bi l b (.cons ea .nil)) σ H Q → tCB (rIsU ca t) (tCons (RE ca C ea) (tCons (tC (.ty (tyS t))) tNil)) σ H Q := by
  rintro σ H Q ⟨φ,G,O,ρ,T,tt,h⟩
  rw [den] at h
  simp only [denA,R.bind_bind,R.bind_ok] at h
  refine ⟨φ,G,O,ρ,T,tt,Pc.imp h.bind ?_⟩
  rintro v H1 ⟨φ1,G1,T1,u,f1,s1,r1,h1⟩
  rw [isiB_eq ht] at h1
  exact ⟨v,φ1,G1,O,T1,u,rfl,s1,r1,h1⟩
end
end Y
namespace Y
open PySem PySem.Spec PyProof.Rows L2
structure Cg (X : Cx) (N : List Str) (sc : Scope) (vm tm : List Bool) (n : Nat) : Prop where
  hN : X.N = N
  hsc : X.env.scope = sc
  nd : N.Nodup
  calm : X.calm = true
  room : Room n X.A
  never : ∀ e s,¬ X.xe e s
  vis : ∀ (i : Nat) (x : Str),vm[i]? = some true → N[i]? = some x → Vis sc x ∧ (x == ("__debug__" : Str)) = false ∧ (x == ("__classdict__" : Str)) = false
  tgt : ∀ (i : Nat) (x : Str),tm[i]? = some true → N[i]? = some x → Loc sc x ∧ (X.fn x = true ∨ sc.names.lookup x = some .local)
theorem Cg.hu {X : Cx} {N : List Str} {sc : Scope} {vm tm : List Bool} {n : Nat} (g : Cg X N sc vm tm n) : X.A.units + 65 < cLine := by have := g.room.un; omega
def visB (sc : Scope) (x : Str) : Bool := (match sc.names.lookup x with | some .local => true | some .cell => true | some .free => true | _ => false) && !(x == ("__debug__" : Str)) && !(x == ("__classdict__" : Str))
def visAll (N : List Str) (sc : Scope) (vm : List Bool) : Bool := (N.zip vm).all fun p => !p.2 || visB sc p.1
def locB (sc : Scope) (x : Str) : Bool := match sc.names.lookup x with | some .local => true | some .cell => true | _ => false
def tgtAll (N : List Str) (sc : Scope) (tm : List Bool) : Bool := (N.zip tm).all fun p => !p.2 || locB sc p.1
theorem visB_ok {sc : Scope} {x : Str} (h : visB sc x = true) : Vis sc x ∧ (x == ("__debug__" : Str)) = false ∧ (x == ("__classdict__" : Str)) = false := by
  unfold visB at h
  simp only [Bool.and_eq_true,Bool.not_eq_true'] at h
  refine ⟨?_,h.1.2,h.2⟩
  have h1 := h.1.1
  split at h1
  · exact .inl (by assumption)
  · exact .inr (.inl (by assumption))
  · exact .inr (.inr (by assumption))
  · cases h1
theorem locB_ok {sc : Scope} {x : Str} (h : locB sc x = true) : Loc sc x := by
  unfold locB at h
  split at h
  · exact .inl (by assumption)
  · exact .inr (by assumption)
  · cases h
theorem all_zip {α β : Type} {p : α × β → Bool} {xs : List α} {ys : List β} (h : (xs.zip ys).all p = true) {i : Nat} {x : α} {y : β} (hx : xs[i]? = some x) (hy : ys[i]? = some y) : p (x,y) = true := by
  rw [List.all_eq_true] at h
  refine h _ (List.mem_of_getElem? (i := i) ?_)
  rw [List.getElem?_zip_eq_some]
  exact ⟨hx,hy⟩
theorem visAll_ok {N : List Str} {sc : Scope} {vm : List Bool} (h : visAll N sc vm = true) (i : Nat) (x : Str) (h1 : vm[i]? = some true) (h2 : N[i]? = some x) : Vis sc x ∧ (x == ("__debug__" : Str)) = false ∧ (x == ("__classdict__" : Str)) = false :=
  visB_ok (by simpa using all_zip h h2 h1)
theorem Cg.ofDef {P : Program} {w : World} {K : PySem.W.Frag} {mg : Str → Option Value} {base : Heap} {N : List Str} {qual : Str} {sc : Scope} {f : Addr} {cdv : Value} {A : Around} {outer : List Env} {s : Shared} {H : Hp} {E : XK} {n : Nat} {vm : List Bool}
    (hn : decide N.Nodup = true) (hv : visAll N sc vm = true) (ht : tgtAll N sc vm = true) (hr : Room n (A.deeper (envOfC qual sc s.heap.objs.size f cdv))) : Cg (cxOf CX0 P w K mg base N qual sc f cdv A outer s H E).nox N sc vm vm n where
  hN := rfl
  hsc := rfl
  nd := of_decide_eq_true hn
  calm := rfl
  room := hr
  never := fun _ _ h => h
  vis := visAll_ok hv
  tgt := fun i x h1 h2 => ⟨locB_ok (by simpa using all_zip ht h2 h1),.inl rfl⟩
def tgtBlk (N : List Str) (scope sc : Scope) (tm : List Bool) : Bool := (N.zip tm).all fun p => !p.2 || (locB sc p.1 && (scope.names.lookup p.1 == some .cell || sc.names.lookup p.1 == some .local))
theorem Cg.blk {X : Cx} {N : List Str} {sc : Scope} {vm tm vm' tm' : List Bool} {n : Nat} (g : Cg X N sc vm tm n) {scope : Scope} (sc' : Scope) (hs : relS scope sc = sc') (hv : visAll N sc' vm' = true) (ht : tgtBlk N scope sc' tm' = true)
    (s : Shared) (H : Hp) (C : Addr) (cl : List (Str × Addr)) (fp : List Addr) : Cg (X.blk s H scope (compEnvC scope cl C X.env) fp) N sc' vm' tm' n where
  hN := g.hN
  hsc := by
    rw [← hs,← g.hsc]
    rfl
  nd := g.nd
  calm := g.calm
  room := g.room
  never := fun _ _ h => h
  vis := visAll_ok hv
  tgt := fun i x h1 h2 => by
    have h := all_zip ht h2 h1
    simp only [Bool.not_true,Bool.false_or,Bool.and_eq_true,Bool.or_eq_true,beq_iff_eq] at h
    refine ⟨locB_ok h.1, ?_⟩
    rcases h.2 with h | h
    · left
      show (scope.names.lookup x == some .cell) = true
      rw [h] <;> rfl
    · exact .inr h
theorem bt_len : bootBuiltins "len" = some (.builtin "len") := by decide +kernel
theorem bt_list : bootBuiltins "list" = some (.type "list") := by decide +kernel
theorem bt_tuple : bootBuiltins "tuple" = some (.type "tuple") := by decide +kernel
theorem bt_int : bootBuiltins "int" = some (.type "int") := by decide +kernel
theorem bt_min : bootBuiltins "min" = some (.builtin "min") := by decide +kernel
theorem bt_isinstance : bootBuiltins "isinstance" = some (.builtin "isinstance") := by decide +kernel
section
variable {ca : Nat → Addr} {O T : Cs} {X : Cx} {C : Cn} {pos p apos cpos tpos pos' p2 : Pos} {a b c e tg o i iter elt st : Expr} {ea eb ec eo : CE} {as : CA} {es rest : List Expr} {N : List Str} {sc sc' : Scope} {vm tm vm' tm' : List Bool} {n j np : Nat} {x m f : Str}
theorem y_v (g : Cg X N sc vm tm n) (i : Nat) (hN : N[i]? = some x := by rfl) (hv : vm[i]? = some true := by rfl) : PE X (.Name x pos) (RE ca C (.v i)) :=
  have h := g.vis i x hv hN
  pe_v (g.hN ▸ hN) (g.hsc ▸ h.1) h.2.1 h.2.2
theorem y_int {k : Int} {jj : Nat} : PE X (.Constant (.int k) jj pos) (RE ca C (.c (.int k))) := pe_c (fun _ => .int k) pe_int
theorem y_bl {k : Bool} {jj : Nat} : PE X (.Constant (.bool k) jj pos) (RE ca C (.c (.bool k))) := pe_c (fun _ => .bl k) pe_bl
theorem y_str {k : Str} {jj : Nat} : PE X (.Constant (.str k) jj pos) (RE ca C (.c (.str k))) := pe_c (fun _ => .str k) pe_str
theorem y_non {jj : Nat} : PE X (.Constant .none jj pos) (RE ca C (.c .none)) := pe_c (fun _ => .non) pe_non
theorem gl_of (g : Cg X N sc vm tm n) (h : sc.names.lookup x = some .globalImplicit) : Gl X x := by
  show X.env.scope.names.lookup x = _
  rw [g.hsc]
  exact h
theorem y_g (g : Cg X N sc vm tm n) {k : Nat} {d : Y.D} (hm : ∃ u v,X.mg x = some u ∧ RelV v u ∧ ∀ G,Rp G v d) (hk : C.glob k = some d) (hg : sc.names.lookup x = some .globalImplicit := by rfl) (hd : (x == ("__debug__" : Str)) = false := by decide) : PE X (.Name x pos) (RE ca C (.g k)) := by
  obtain ⟨u,v,h1,h2,h3⟩ := hm
  refine (pe_glob (gl_of g hg) h1 h2 hd).imp fun σ H Q => ?_
  rintro ⟨φ,G,O,ρ,T,t,h⟩
  rw [den,hk] at h
  exact Pc.now h t.s (.d (h3 G))
theorem un_neg' : UnR X (unaryOp .USub) (rOp1 ca fun O x T => match x with
    | .d (.int i) => .ok (.d (.int (-i))) T
    | _ => .fail) := by
  rintro pins s σ H x v Q I rx ⟨φ,G,O,T,u,sd,r,h⟩
  have k : ∀ i,u = .d (.int i) → wpAny (model X.prog X.w) X.A (unaryOp .USub v) (EP X pins σ Q) X.xe s := fun i e => by
    subst e
    have := rp_int r; subst this
    exact un_neg pins s σ H _ v Q I rx ⟨_,rfl,Pc.now h sd (.d (.int _))⟩
  cases u with
  | d x => cases x <;> first | exact k _ rfl | exact h.elim
  | ref _ => exact h.elim
  | tup _ => exact h.elim
theorem y_neg (ha : PE X a (RE ca C ea)) : PE X (.UnaryOp .USub a pos) (RE ca C (.neg ea)) := (pe_un un_neg' ha).imp (to_op1 fun _ _ _ => by rw [den] <;> rfl)
theorem y_bin {l : Bool} {o : Op} (ha : PE X a (RE ca C ea)) (hb : PE X b (RE ca C eb)) : PE X (.BinOp a (opS o) b pos) (RE ca C (.bin l o ea eb)) := pe_bin (op_bin o l) ha hb
theorem y_cm (g : Cg X N sc vm tm n) {o : COp} (ha : PE X a (RE ca C ea)) (hb : PE X b (RE ca C eb)) (hm : behindInMarks (copS o) b = false := by rfl) : PE X (.Compare a [copS o] [b] pos) (RE ca C (.cmp o ea eb)) := pe_cm (op_cmp o g.hu) ha hb hm
theorem y_and (ha : PE X a (RE ca C ea)) (hb : PE X (.BoolOp .And (b :: rest) pos) (RE ca C eb)) : PE X (.BoolOp .And (a :: b :: rest) pos) (RE ca C (.and ea eb)) := (pe_and ha hb).imp to_and
theorem y_one {op : BoolOp} (ha : PE X a (RE ca C ea)) : PE X (.BoolOp op [a] pos) (RE ca C ea) := pe_one ha
theorem y_not (ha : PE X a (RE ca C ea)) : PE X (.UnaryOp .Not a pos) (RE ca C (.not ea)) := (pe_not ha).imp to_not
theorem t_cm (g : Cg X N sc vm tm n) {o : COp} (ha : PE X a (RE ca C ea)) (hb : PE X b (RE ca C eb)) (hm : behindInMarks (copS o) b = false := by rfl) : PT X (.Compare a [copS o] [b] pos) (RT ca C (.cmp o ea eb)) := pt_cm (op_cmp o g.hu) ha hb hm
theorem t_ch (g : Cg X N sc vm tm n) {o o' : COp} (ha : PE X a (RE ca C ea)) (hb : PE X b (RE ca C eb)) (he : PE X e (RE ca C ec)) (hm : lastMarks [copS o,copS o'] [b,e] = false := by rfl) :
    PT X (.Compare a [copS o,copS o'] [b,e] pos) (RT ca C (.chain o o' ea eb ec)) := pt_ch (op_cmp o g.hu) (op_cmp o' g.hu) ha hb he hm
theorem t_e (h : PE X e (RE ca C ea)) (he : ∀ whole,isTrue e X.env whole = (do let v ← whole; standAt e.pos; holding [v] (truthy v)) := by intro _; rfl) : PT X e (RT ca C ea) := pt_e h he
theorem w_or (ha : PT X a (RT ca C ea)) (hb : PW X (.BoolOp .Or (b :: rest) pos) (RT ca C eb)) : PW X (.BoolOp .Or (a :: b :: rest) pos) (RT ca C (.or ea eb)) := (pw_or ha hb).imp to_orT
theorem w_or1 (ha : PT X a (RT ca C ea)) : PW X (.BoolOp .Or [a] pos) (RT ca C ea) := pw_or1 ha
theorem t_w (h : PW X e (RT ca C ea)) : PT X e (RT ca C ea) := h.pt
theorem t_not (ha : PT X a (RT ca C ea)) : PT X (.UnaryOp .Not a pos) (RT ca C (.not ea)) := (pt_not ha).imp to_notT
theorem a_nil : PA X [] (RA ca C .nil) := pa_nil'
theorem a_cons (ha : PE X a (RE ca C ea)) (hr : PA X es (RA ca C as)) (hs : starEach (a :: es) X.env = (false,eval a X.env) :: starEach es X.env := by rfl) : PA X (a :: es) (RA ca C (.cons ea as)) := pa_cons' ha hr hs
theorem y_tup {k : Nat} (h : PA X es (RA ca C as)) : PE X (.Tuple es k pos) (RE ca C (.tup as)) := pe_tu h
theorem y_lst {l : Bool} (h : PA X es (RA ca C as)) : PE X (.List es pos) (RE ca C (.lst l as)) := pe_li h
theorem y_ix (g : Cg X N sc vm tm n) (ha : PE X a (RE ca C ea)) (hb : PE X b (RE ca C eb)) (hs : PlainIx b := by exact fun _ _ => rfl) : PE X (.Subscript a b pos) (RE ca C (.ix ea eb)) := pe_sub (ix := eb) (ix_any g.hu) ha hb hs
theorem y_slc {l : Bool} {lo hi : Option Expr} (ha : PE X a (RE ca C ea)) (hl : PO X lo (RP ca C eb)) (hh : PO X hi (RP ca C ec)) : PE X (.Subscript a (.Slice lo hi none p2) pos) (RE ca C (.slc l ea eb ec)) := (pe_slice (sl_any l) ha hl hh).imp to_slc
theorem o_sk : PO X none (RP ca C .skip) := po_sk
theorem o_e (h : PE X e (RE ca C ec)) (hs : isSkip ec = false := by rfl) : PO X (some e) (RP ca C ec) := po_e h hs
theorem y_frz (h : PE X e (RE ca C ea)) : PE X e (RE ca C (.frz ea)) := h.imp to_frz
structure CalY (P : Program) (w : World) (K : PySem.W.Frag) (mg : Str → Option Value) (base : Heap) (ca : Nat → Addr) (call : Cs → Nat → List U → Cs → R U) (n j np : Nat) (x : Str) (ds : List Y.D) : Prop where
  ex : ∃ (f : Addr) (fd : FuncData) (ps : List Str) (dvs : List V) (dus : List Value),FnOk P w K mg base CX0 n f fd ps (spR ca call j np) ∧ mg x = some (.ref f) ∧ PySem.W.keepIn K (.ref f) = true ∧ Binds K fd ps dus ∧ Vals dvs dus ∧ ∀ G,Rps G dvs ds
  len : ∀ O us T,us.length ≠ np → call O j us T = .fail
theorem y_call (g : Cg X N sc vm tm n) {l : Bool} {ds : List Y.D} (F : CalY X.prog X.w X.K X.mg X.base ca C.call n j np x ds) (ha : PA X (e :: es) (RA ca C as)) (hg : sc.names.lookup x = some .globalImplicit := by rfl) (hdb : (x == ("__debug__" : Str)) = false := by decide)
    (he : starEach (e :: es) X.env = (false,eval e X.env) :: starEach es X.env := by rfl) (hpl : (backTo pos (starEach es X.env)).any (·.1) = false := by rfl) : PE X (.Call (.Name x p) (e :: es) [] pos) (RE ca C (.call l j as ds)) := by
  obtain ⟨f,fd,ps,dvs,dus,h1,h2,h3,h4,h5,h6⟩ := F.ex
  exact (pe_call h1 g.room (gl_of g hg) h2 h3 h4 h5 (E := E0) pass0 ha hdb he hpl).imp (to_call h6 F.len)
theorem y_cb (g : Cg X N sc vm tm n) {l : Bool} {bi : BI} {id : String} (hc : CallR X (.builtin id) (rBi ca l bi)) (hm : X.mg x = none) (hv : bootBuiltins x = some (.builtin id)) (ha : PA X (e :: es) (RA ca C as)) (hg : sc.names.lookup x = some .globalImplicit := by rfl) (hn : x ≠ "__name__" := by decide) (hdb : (x == ("__debug__" : Str)) = false := by decide)
    (he : starEach (e :: es) X.env = (false,eval e X.env) :: starEach es X.env := by rfl) (hpl : (backTo pos (starEach es X.env)).any (·.1) = false := by rfl) : PE X (.Call (.Name x p) (e :: es) [] pos) (RE ca C (.bi l bi as)) :=
  (pe_callB hc (gl_of g hg) hm hv ha hn hdb he hpl).imp to_bi
theorem y_cty (g : Cg X N sc vm tm n) {l : Bool} {bi : BI} {Tn : String} (hc : CallR X (.type Tn) (rBi ca l bi)) (hm : X.mg x = none) (hv : bootBuiltins x = some (.type Tn)) (ha : PA X (e :: es) (RA ca C as)) (hg : sc.names.lookup x = some .globalImplicit := by rfl) (hn : x ≠ "__name__" := by decide) (hdb : (x == ("__debug__" : Str)) = false := by decide)
    (he : starEach (e :: es) X.env = (false,eval e X.env) :: starEach es X.env := by rfl) (hpl : (backTo pos (starEach es X.env)).any (·.1) = false := by rfl) : PE X (.Call (.Name x p) (e :: es) [] pos) (RE ca C (.bi l bi as)) :=
  (pe_callTy hc (gl_of g hg) hm hv ha hn hdb he hpl).imp to_bi
theorem f_len (g : Cg X N sc vm tm n) {l : Bool} (hm : X.mg "len" = none) (ha : PA X (e :: es) (RA ca C as)) (hg : sc.names.lookup ("len" : Str) = some .globalImplicit := by rfl)
    (he : starEach (e :: es) X.env = (false,eval e X.env) :: starEach es X.env := by rfl) (hpl : (backTo pos (starEach es X.env)).any (·.1) = false := by rfl) : PE X (.Call (.Name "len" p) (e :: es) [] pos) (RE ca C (.bi l .len as)) :=
  y_cb g (cr_len) hm bt_len ha hg (by decide) (by decide) he hpl
theorem f_list (g : Cg X N sc vm tm n) {l : Bool} (hm : X.mg "list" = none) (ha : PA X (e :: es) (RA ca C as)) (hg : sc.names.lookup ("list" : Str) = some .globalImplicit := by rfl)
    (he : starEach (e :: es) X.env = (false,eval e X.env) :: starEach es X.env := by rfl) (hpl : (backTo pos (starEach es X.env)).any (·.1) = false := by rfl) : PE X (.Call (.Name "list" p) (e :: es) [] pos) (RE ca C (.bi l .list as)) :=
  y_cty g (cr_list) hm bt_list ha hg (by decide) (by decide) he hpl
theorem f_tuple (g : Cg X N sc vm tm n) {l : Bool} (hm : X.mg "tuple" = none) (ha : PA X (e :: es) (RA ca C as)) (hg : sc.names.lookup ("tuple" : Str) = some .globalImplicit := by rfl)
    (he : starEach (e :: es) X.env = (false,eval e X.env) :: starEach es X.env := by rfl) (hpl : (backTo pos (starEach es X.env)).any (·.1) = false := by rfl) : PE X (.Call (.Name "tuple" p) (e :: es) [] pos) (RE ca C (.bi l .tuple as)) :=
  y_cty g (cr_tuple) hm bt_tuple ha hg (by decide) (by decide) he hpl
theorem f_int (g : Cg X N sc vm tm n) {l : Bool} (hm : X.mg "int" = none) (ha : PA X (e :: es) (RA ca C as)) (hg : sc.names.lookup ("int" : Str) = some .globalImplicit := by rfl)
    (he : starEach (e :: es) X.env = (false,eval e X.env) :: starEach es X.env := by rfl) (hpl : (backTo pos (starEach es X.env)).any (·.1) = false := by rfl) : PE X (.Call (.Name "int" p) (e :: es) [] pos) (RE ca C (.bi l .int as)) :=
  y_cty g (cr_int) hm bt_int ha hg (by decide) (by decide) he hpl
theorem f_islist (g : Cg X N sc vm tm n) {l : Bool} (hm : X.mg "isinstance" = none) (hm2 : X.mg "list" = none) (ha : PE X e (RE ca C ea)) (hg : sc.names.lookup ("isinstance" : Str) = some .globalImplicit := by rfl) (hg2 : sc.names.lookup ("list" : Str) = some .globalImplicit := by rfl)
    (he : starEach [e,.Name "list" p2] X.env = (false,eval e X.env) :: starEach [.Name "list" p2] X.env := by rfl) : PE X (.Call (.Name "isinstance" p) [e,.Name "list" p2] [] pos) (RE ca C (.bi l .islist (.cons ea .nil))) :=
  (pe_callB (cr_isi (ca := ca) (t := .list) (by decide)) (gl_of g hg) hm bt_isinstance (pa_cons ha (pa_cons (pe_bltn (gl_of g hg2) hm2 bt_list (v := .ty (tyS .list)) rfl (by decide) (by decide)) pa_nil rfl) he) (by decide) (by decide) he rfl).imp (to_isi rfl)
theorem m_append (g : Cg X N sc vm tm n) {l : Bool} (ho : PE X o (RE ca C eo)) (ha : PA X (e :: es) (RA ca C as)) (hbase : attributeBase o "append" X.env (eval o X.env) = eval o X.env := by rfl)
    (hfew : ((backTo cpos (starEach (e :: es) X.env)).all (fun x => !x.1) && (backToKw cpos (keywordEach [] X.env)).all (fun x => x.1.isSome)
      && decide ((e :: es).length + ([] : List Keyword).length + (if ([] : List Keyword).isEmpty then 0 else 1) < 30)) = true := by rfl)
    (hline : (apos.endLine == cpos.line) = true := by rfl) (hs : starEach (e :: es) X.env = (false,eval e X.env) :: starEach es X.env := by rfl) (hplain : (backTo cpos (starEach es X.env)).any (·.1) = false := by rfl) :
    PE X (.Call (.Attribute o "append" apos) (e :: es) [] cpos) (RE ca C (.mt l .append eo as)) := (pe_mL PySem.F.plainAttrs_list PySem.F.slot_list_append PySem.F.type_list_append (mt_append' (l := l)) ho ha hbase hfew hline hs hplain).imp (to_mt (by decide))
theorem m_extend (g : Cg X N sc vm tm n) {l : Bool} (ho : PE X o (RE ca C eo)) (ha : PA X (e :: es) (RA ca C as)) (hbase : attributeBase o "extend" X.env (eval o X.env) = eval o X.env := by rfl)
    (hfew : ((backTo cpos (starEach (e :: es) X.env)).all (fun x => !x.1) && (backToKw cpos (keywordEach [] X.env)).all (fun x => x.1.isSome)
      && decide ((e :: es).length + ([] : List Keyword).length + (if ([] : List Keyword).isEmpty then 0 else 1) < 30)) = true := by rfl)
    (hline : (apos.endLine == cpos.line) = true := by rfl) (hs : starEach (e :: es) X.env = (false,eval e X.env) :: starEach es X.env := by rfl) (hplain : (backTo cpos (starEach es X.env)).any (·.1) = false := by rfl) :
    PE X (.Call (.Attribute o "extend" apos) (e :: es) [] cpos) (RE ca C (.mt l .extend eo as)) := (pe_mL PySem.F.plainAttrs_list PySem.F.slot_list_extend PySem.F.type_list_extend (mt_extend' (l := l)) ho ha hbase hfew hline hs hplain).imp (to_mt (by decide))
theorem m_insert (g : Cg X N sc vm tm n) {l : Bool} (ho : PE X o (RE ca C eo)) (ha : PA X (e :: es) (RA ca C as)) (hbase : attributeBase o "insert" X.env (eval o X.env) = eval o X.env := by rfl)
    (hfew : ((backTo cpos (starEach (e :: es) X.env)).all (fun x => !x.1) && (backToKw cpos (keywordEach [] X.env)).all (fun x => x.1.isSome)
      && decide ((e :: es).length + ([] : List Keyword).length + (if ([] : List Keyword).isEmpty then 0 else 1) < 30)) = true := by rfl)
    (hline : (apos.endLine == cpos.line) = true := by rfl) (hs : starEach (e :: es) X.env = (false,eval e X.env) :: starEach es X.env := by rfl) (hplain : (backTo cpos (starEach es X.env)).any (·.1) = false := by rfl) :
    PE X (.Call (.Attribute o "insert" apos) (e :: es) [] cpos) (RE ca C (.mt l .insert eo as)) := (pe_mL PySem.F.plainAttrs_list PySem.F.slot_list_insert PySem.F.type_list_insert (mt_insert' (l := l)) ho ha hbase hfew hline hs hplain).imp (to_mt (by decide))
theorem i_lst (h : PE X e (RE ca C ea)) : PI X tg e (RI ca C (.lst ea)) := pi_li h
theorem i_tup (h : PE X e (RE ca C ea)) : PI X tg e (RI ca C (.tup ea)) := pi_tu h
theorem i_r1 (g : Cg X N sc vm tm n) (hm : X.mg "range" = none) (ha : PE X a (RE ca C ea)) (hg : sc.names.lookup ("range" : Str) = some .globalImplicit := by rfl) (hs : starEach [a] X.env = [(false,eval a X.env)] := by rfl) : PI X tg (.Call (.Name "range" p) [a] [] pos) (RI ca C (.rng1 ea)) :=
  pi_r1 (gl_of g hg) hm (a_cons ha a_nil hs) hs
theorem i_en {elts : List Expr} {kk : Nat} (g : Cg X N sc vm tm n) (hm : X.mg "enumerate" = none) (ha : PE X a (RE ca C ea)) (hg : sc.names.lookup ("enumerate" : Str) = some .globalImplicit := by rfl) (hs : starEach [a] X.env = [(false,eval a X.env)] := by rfl) :
    PI X (.Tuple elts kk tpos) (.Call (.Name "enumerate" p) [a] [] pos) (RI ca C (.enumL ea)) := pi_en (gl_of g hg) hm (a_cons ha a_nil hs) hs
theorem g_nm (g : Cg X N sc vm tm n) (i : Nat) (hN : N[i]? = some x := by rfl) (hv : tm[i]? = some true := by rfl) : PG X (.Name x pos) (RG ca (.nm i)) :=
  have h := g.tgt i x hv hN
  pg_nm (g.hN ▸ g.nd) (g.hN ▸ hN) (g.hsc ▸ h.1) (g.hsc ▸ h.2)
theorem g_nil : PGs X [] (RGs ca .nil) := pgs_nl
theorem g_cons {q : Tg} {qs : Tgs} (h1 : PG X e (RG ca q)) (h2 : PGs X es (RGs ca qs)) (hs : (assignEach (e :: es) X.env).map (·.2) = assign e X.env :: (assignEach es X.env).map (·.2) := by rfl) : PGs X (e :: es) (RGs ca (.cons q qs)) := pgs_cn h1 h2 hs
def lenTgs : Tgs → Nat
  | .nil => 0
  | .cons _ t => lenTgs t + 1
theorem asgTs_len : ∀ (t : Tgs) (us : List U) (ρ ρ' : Rho),asgTs O T t us ρ = some ρ' → us.length = lenTgs t
  | .nil,[],_,_,_ => rfl
  | .nil,_ :: _,_,_,h => by rw [asgTs] at h <;> first | cases h | simp
  | .cons _ _,[],_,_,h => by rw [asgTs] at h <;> first | cases h | simp
  | .cons t ts,u :: us,ρ,ρ',h => by
    rw [asgTs] at h
    split at h
    · rename_i r e
      have := asgTs_len ts us r ρ' h
      simp [lenTgs,this]
    · cases h
theorem g_tp {kk : Nat} {qs : Tgs} (g : Cg X N sc vm tm n) (h : PGs X es (RGs ca qs)) (hn : (assignEach es X.env).length = lenTgs qs := by rfl) (hst : (assignEach es X.env).findIdx? (·.1) = none := by rfl) : PG X (.Tuple es kk pos) (RG ca (.tp qs)) :=
  pg_tp g.calm h hn hst fun _ _ us ρ ρ' e => asgTs_len qs us ρ ρ' e
theorem c_no : PTs X [] (RT ca C (.c (.bool true))) := pts_no
theorem c_if (h : PT X c (RT ca C ec)) : PTs X [c] (RT ca C ec) := pts_one h
def subL (a b : List Nat) : Bool := a.all fun i => b.contains i
theorem subL_ok {a b : List Nat} (h : subL a b = true) : ∀ i ∈ a,i ∈ b := by
  intro i hi
  unfold subL at h
  rw [List.all_eq_true] at h
  simpa using h i hi
theorem y_lc (g : Cg X N sc vm tm n) {l : Bool} {q : Tg} {it : IT} {ct ce : CE} {ifs : List Expr} {scope : Scope} {own : List (Str × Nat)} (sc' : Scope) (vm' tm' : List Bool) (hr : relS scope sc = sc') (hv : visAll N sc' vm' = true) (ht' : tgtBlk N scope sc' tm' = true) (ok : blkC N sc scope own = true) (hsl : subL (slotsT q) (own.map (·.2)) = true)
    (hi : PI X tg iter (RI ca C it))
    (k : ∀ Y : Cx,Y.prog = X.prog → Y.w = X.w → Y.K = X.K → Y.mg = X.mg → Y.base = X.base → Cg Y N sc' vm' tm' n → PG Y tg (RG ca q) ∧ PTs Y ifs (RT ca C ct) ∧ PE Y elt (RE ca C ce)) (hs : ∀ x,foldedSetIterable iter X.env x = pure x := by intro _; rfl) :
    PE X (.ListComp elt [⟨tg,iter,ifs,0⟩] scope pos) (RE ca C (.comp l ce q it ct (own.map (·.2)))) := by
  have kk := fun s H A cl fp => k (X.blk s H scope (compEnvC scope cl A X.env) fp) rfl rfl rfl rfl rfl (g.blk sc' hr hv ht' s H A cl fp)
  refine (pe_lc g.calm (g.hN ▸ g.nd) hi (by rw [g.hN,g.hsc]; exact blkOk_by ok) (fun s H A cl fp => (kk s H A cl fp).1) (fun s H A cl fp => (kk s H A cl fp).2.1) (fun s H A cl fp => (kk s H A cl fp).2.2) hs).imp (to_comp (subL_ok hsl))
theorem s_lc (g : Cg X N sc vm tm n) (i : Nat) {y : Str} {py spos : Pos} {l : Bool} {q : Tg} {it : IT} {ct ce : CE} {ifs : List Expr} {scope : Scope} {own : List (Str × Nat)} (sc' : Scope) (vm' tm' : List Bool) (hr : relS scope sc = sc') (hv : visAll N sc' vm' = true) (ht' : tgtBlk N scope sc' tm' = true) (ok : blkC N sc scope own = true) (hsl : subL (slotsT q) (own.map (·.2)) = true)
    (hi : PI X tg iter (RI ca C it))
    (k : ∀ Y : Cx,Y.prog = X.prog → Y.w = X.w → Y.K = X.K → Y.mg = X.mg → Y.base = X.base → Cg Y N sc' vm' tm' n → PG Y tg (RG ca q) ∧ PTs Y ifs (RT ca C ct) ∧ PE Y elt (RE ca C ce))
    (hsw : sc.names.lookup y = some .local → swapsWith (.ListComp elt [⟨tg,iter,ifs,0⟩] scope pos) (some (.Name y py)) spos.line X.env = pure true) (hy : N[i]? = some y := by rfl) (hyl : sc.names.lookup y = some .local := by rfl) (hs : ∀ x,foldedSetIterable iter X.env x = pure x := by intro _; rfl) :
    PS X (.Assign [.Name y py] (.ListComp elt [⟨tg,iter,ifs,0⟩] scope pos) spos) (RS ca C (.asg (.nm i) (.comp l ce q it ct (own.map (·.2))))) := by
  have kk := fun s H A cl fp => k (X.blk s H scope (compEnvC scope cl A X.env) fp) rfl rfl rfl rfl rfl (g.blk sc' hr hv ht' s H A cl fp)
  refine (ps_setLc g.calm (g.hN ▸ g.nd) (g.hN ▸ hy) (g.hsc ▸ hyl) (hsw hyl) hi (by rw [g.hN,g.hsc]; exact blkOk_by ok) (fun s H A cl fp => (kk s H A cl fp).1) (fun s H A cl fp => (kk s H A cl fp).2.1) (fun s H A cl fp => (kk s H A cl fp).2.2) hs).imp fun D σ H => ?_
  rintro ⟨φ,G,O,ρ,T,t,h⟩
  rw [denS] at h
  refine to_comp (subL_ok hsl) σ H _ ⟨φ,G,O,ρ,T,t,Pc.imp h.of ?_⟩
  rintro v H1 ⟨φ1,G1,T1,u,f1,s1,r1,h1⟩
  simp only [asgT] at h1
  exact h1 _ φ1 G1 H1 Fut.refl (At.set ⟨s1,f1.lo t.l,t.n⟩ r1 i)
theorem b_nil : PSs X [] (RBl ca C .nil) := pss_nl
theorem b_cons {st : Stmt} {sts : List Stmt} {cs : CS} {cb : CB} (h1 : PS X st (RS ca C cs)) (h2 : PSs X sts (RBl ca C cb)) : PSs X (st :: sts) (RBl ca C (.cons cs cb)) := pss_cn h1 h2
theorem s_as {q : Tg} (he : PE X e (RE ca C ea)) (hg : PG X tg (RG ca q)) (hs : swapsWithSole [tg] e pos.line X.env = pure false := by rfl) (hw : swappedStores [tg] e X.env = pure none := by rfl) (hm : (assignEach [tg] X.env).map (·.2) = [assign tg X.env] := by rfl) : PS X (.Assign [tg] e pos) (RS ca C (.asg q ea)) := ps_as he hg hs hw hm
theorem s_ex (he : PE X e (RE ca C ea)) (hs : swapsWith e none pos.line X.env = pure false := by rfl) : PS X (.Expr e pos) (RS ca C (.ex ea)) := ps_ex he hs
theorem s_ret (he : PE X e (RE ca C ea)) : PS X (.Return (some e) pos) (RS ca C (.ret ea)) := ps_rt he
theorem s_retN : PS X (.Return none pos) (RS ca C .retN) := ps_rtN
theorem s_if {t : Expr} {a b : List Stmt} {ct : CE} {cx cy : CB} (ht : PT X t (RT ca C ct)) (ha : PSs X a (RBl ca C cx)) (hb : PSs X b (RBl ca C cy)) : PS X (.If t a b pos) (RS ca C (.ite ct cx cy)) := ps_it ht ha hb
theorem s_for (g : Cg X N sc vm tm n) {b : List Stmt} {q : Tg} {it : IT} {cb : CB} (hi : PI X tg e (RI ca C it)) (hg : PG X tg (RG ca q)) (hb : PSs X b (RBl ca C cb)) (hs : ∀ x,foldedSetIterable e X.env x = pure x := by intro _; rfl) : PS X (.For tg e b [] pos) (RS ca C (.for_ q it cb)) :=
  ps_fo (fun e s h => absurd h (g.never e s)) g.calm hi hg hb hs
theorem s_seti (g : Cg X N sc vm tm n) (he : PE X e (RE ca C ea)) (ho : PE X o (RE ca C eo)) (hi : PE X i (RE ca C ec)) (hs : swapsWithSole [.Subscript o i pos'] e pos.line X.env = pure false := by rfl) (hw : swappedStores [.Subscript o i pos'] e X.env = pure none := by rfl) (hm : (assignEach [.Subscript o i pos'] X.env).map (·.2) = [assign (.Subscript o i pos') X.env] := by rfl)
    (hpg : PSet X (rSet3 ca) → PG X (.Subscript o i pos') (gSub (RE ca C eo) (RE ca C ec) (rSet3 ca))) : PS X (.Assign [.Subscript o i pos'] e pos) (RS ca C (.seti eo ec ea)) :=
  (ps_asg he (hpg (set_any g.hu)) hs hw hm).imp to_seti
end
end Y
namespace Y
open PySem PySem.Spec PyProof.Rows L2
abbrev cn (G : Pg) (n : Nat) : Cn := ⟨run G n,run G n,G.glob⟩
theorem run_len {G : Pg} {j np ns : Nat} {b : CB} (hG : G.defs j = some ⟨np,ns,b⟩) (n : Nat) (O : Cs) (us : List U) (T : Cs) (h : us.length ≠ np) : run G n O j us T = .fail := by
  cases n with
  | zero => rfl
  | succ n =>
    rw [run,hG]
    exact if_neg h
section
variable {P : Program} {w : World} {K : PySem.W.Frag} {mg : Str → Option Value} {base : Heap} {ca : Nat → Addr} {φ : List Addr} {Gh : Hp}
theorem start_lo : ∀ {vs : List V} {us : List U} (k : Nat),RpUs Gh φ vs us → Lo Gh φ (vs.map some ++ List.replicate k none) (us.map some ++ List.replicate k none) := by
  intro vs us k r i u h
  have hl := r.length
  by_cases hi : i < us.length
  · rw [List.getElem?_append_left (by simpa using hi),List.getElem?_map] at h
    simp only [Option.map_eq_some_iff,Option.some.injEq,exists_eq_right] at h
    obtain ⟨v,h1,h2⟩ := r.get h
    refine ⟨v, ?_,h2⟩
    rw [List.getElem?_append_left (by simp; omega),List.getElem?_map,h1]
    rfl
  · rw [List.getElem?_append_right (by simp; omega),List.getElem?_replicate] at h
    split at h <;> cases h
theorem def_ok {x qual : Str} {st : Stmt} {f : Addr} {fd : FuncData} {N ps : List Str} {sc : Scope} {vm : List Bool} {G : Pg} {j np ns n : Nat} {b : CB} (F : Fun K x qual st f fd) (hsc : defScope st = sc) (S : FnScope N ps sc) (hG : G.defs j = some ⟨np,ns,b⟩) (hps : ps.length = np) (hns : N.length = ns)
    (hn : decide N.Nodup = true) (hv : visAll N sc vm = true) (ht : tgtAll N sc vm = true)
    (hb : ∀ X : Cx,X.prog = P → X.w = w → X.K = K → X.mg = mg → X.base = base → Cg X N sc vm vm (2 * n + 2) → PSs X (defBody st) (RBl ca (cn G n) b)) : FnOk P w K mg base CX0 (2 * n + 3) f fd ps (spR ca (run G (n + 1)) j np) := by
  subst hsc
  refine F.ok S (fun vs H Q E h => ?_) (fun cdv A outer s H vs Q E hr h => ⟨_,hb _ rfl rfl rfl rfl rfl (Cg.ofDef hn hv ht hr), ?_⟩)
  · obtain ⟨φ,G0,O,T,us,hl,s,r,q⟩ := h
    rw [r.length,hl,hps]
  · obtain ⟨φ,G0,O,T,us,hl,s,r,q⟩ := h
    rw [run,hG] at q
    have q : Pc ca rU φ G0 O (if us.length = np then match denB (cn G n) O b (us.map some ++ List.replicate (ns - us.length) none) T with
    | .nx _ T' => .ok (.d .none) T'
    | .rt u T' => .ok u T'
    | .exc c fs _ T' => .exc c fs T'
    | _ => .fail else .fail) Q := q
    rw [if_pos hl] at q
    refine ⟨φ,G0,O,us.map some ++ List.replicate (ns - us.length) none,T,⟨s, ?_, ?_⟩, ?_⟩
    · show Lo G0 φ (vs.map some ++ List.replicate (N.length - vs.length) none) _
      rw [hns,r.length]
      exact start_lo _ r
    · show (vs.map some ++ List.replicate (N.length - vs.length) none).length = _
      simp [hns,r.length]
    · cases e : denB (cn G n) O b (us.map some ++ List.replicate (ns - us.length) none) T with
      | nx ρ T' =>
        rw [e] at q
        exact fun σ φ' G' H' f t => q .non φ' G' H' f t.s (.d .non)
      | rt u T' =>
        rw [e] at q
        exact fun v φ' G' H' f s r => q v φ' G' H' f s r
      | bk ρ T' => rw [e] at q; exact q.elim
      | ct ρ T' => rw [e] at q; exact q.elim
      | exc => rw [e] at q; exact q.elim
      | fail => rw [e] at q; exact q.elim
theorem def_0 {kl : Nat} {f : Addr} {fd : FuncData} {ps : List Str} {G : Pg} {j np : Nat} : FnOk P w K mg base CX0 kl f fd ps (spR ca (run G 0) j np) where
  len := by
    rintro vs H Q E ⟨φ,G0,O,T,us,hl,s,r,q⟩
    exact q.elim
  run := by
    rintro A outer s H args us vs Q E hr e0 hb hv ⟨φ,G0,O,T,us,hl,s,r,q⟩
    exact q.elim
end
def NoL (K : PySem.W.Frag) : Prop := ∀ (a : Addr) (o : Obj),K.lookup a = some o → o.cls ≠ .type "list"
theorem law_imp {P : Program} {w : World} {K : PySem.W.Frag} {mg : Str → Option Value} {base : Heap} {ca : Nat → Addr} {k j : Nat} {f : Addr} {fd : FuncData} {ps : List Str} {call : Cs → Nat → List U → Cs → R U} (F : FnOk P w K mg base CX0 k f fd ps (spR ca call j 1)) (nl : NoL K)
    (h : ∀ ns : List Int,ns.length ≤ 63 → ∃ T,call [] j [.d (.list (ns.map .int))] [] = .ok (.d (.bool true)) T) : FnOk P w K mg base CX0 k f fd ps (fun vs H Q _ => ∃ (a : Addr) (ns : List Int),vs = [.ref a] ∧ SqL K H a (ns.map V.int) ∧ ns.length ≤ 63 ∧ ∀ H',Q (.bl true) H') :=
  F.imp fun vs H Q E => by
    rintro ⟨a,ns,rfl,hS,hl,q⟩
    have hR : Rd H a (.lst (ns.map V.int)) := by
      rcases hS with hS | ⟨o,its,n,h1,h2,_⟩
      · exact hS
      · exact absurd h2 (nl a o h1)
    have hr : Rps H (ns.map V.int) (ns.map PyData.int) := by
      clear hR hS hl
      induction ns with
      | nil => exact .nil
      | cons n ns ih => exact .cons (.int n) ih
    obtain ⟨T,e⟩ := h ns hl
    refine ⟨[],H,[],[],[.d (.list (ns.map .int))],rfl,⟨rfl,List.nodup_nil,Ex.refl H,fun i a c h => by simp at h,fun i a h => by simp at h,fun i a c h => by simp at h⟩,.cons (.d (.lst hR hr)) .nil, ?_⟩
    rw [e]
    intro v φ' G' H' f s r
    cases r with
    | d r => cases r; exact q H'
end Y
namespace Y
open PySem PySem.Spec PyProof.Rows L2
section
variable {prog : Program} {w : World} {A : Around} {E : Value → Shared → Prop} {s : Shared}
end
section
variable {prog : Program} {w : World} {A : Around} {E : Value → Shared → Prop} {s : Shared}
end
def nolB (K : PySem.W.Frag) : Bool := K.all fun p => match p.2.cls with | .type t => !(t == "list") | _ => true
theorem nol_of {K : PySem.W.Frag} (h : nolB K = true) : NoL K := by
  intro a o e q
  have hm : (a,o) ∈ K := by
    clear h
    induction K with
    | nil => simp at e
    | cons p K ih =>
      obtain ⟨b,o'⟩ := p
      rw [List.lookup_cons] at e
      cases hb : a == b with
      | true =>
        rw [hb] at e
        have hb := eq_of_beq hb
        cases e
        subst hb
        exact List.mem_cons_self
      | false =>
        rw [hb] at e
        exact List.mem_cons_of_mem _ (ih e)
  unfold nolB at h
  rw [List.all_eq_true] at h
  have := h _ hm
  simp only [q] at this
  simp at this
section
variable {ca : Nat → Addr} {O T : Cs} {X : Cx} {K : PySem.W.Frag} {C : Cn} {pos p apos cpos tpos pos' p2 : Pos} {a b c e tg o i iter elt st : Expr} {ea eb ec eo : CE} {as : CA} {es rest : List Expr} {N : List Str} {sc sc' : Scope} {vm tm vm' tm' : List Bool} {n j np : Nat} {x m f : Str} {φ0 : List Addr} {G0 : Hp}
theorem s_lcA (g : Cg X N sc vm tm n) (i : Nat) {y : Str} {py spos : Pos} {l : Bool} {q : Tg} {it : IT} {ct ce : CE} {ifs : List Expr} {scope : Scope} {own : List (Str × Nat)} (sc' : Scope) (vm' tm' : List Bool) (hr : relS scope sc = sc') (hv : visAll N sc' vm' = true) (ht' : tgtBlk N scope sc' tm' = true) (ok : blkC N sc scope own = true) (hsl : subL (slotsT q) (own.map (·.2)) = true)
    (hi : PI X tg iter (RI ca C it))
    (k : ∀ Y : Cx,Y.prog = X.prog → Y.w = X.w → Y.K = X.K → Y.mg = X.mg → Y.base = X.base → Cg Y N sc' vm' tm' n → PG Y tg (RG ca q) ∧ PTs Y ifs (RT ca C ct) ∧ PE Y elt (RE ca C ce))
    (hk : sc.kind = .function := by rfl) (hl : (py.line == pos.line) = true := by rfl) (ha : (scope.names.any fun (n,k) => n == y && (k == .local || k == .cell)) = false := by decide +kernel) (hy : N[i]? = some y := by rfl) (hyl : sc.names.lookup y = some .local := by rfl) (hs : ∀ x,foldedSetIterable iter X.env x = pure x := by intro _; rfl) :
    PS X (.Assign [.Name y py] (.ListComp elt [⟨tg,iter,ifs,0⟩] scope pos) spos) (RS ca C (.asg (.nm i) (.comp l ce q it ct (own.map (·.2))))) :=
  s_lc g i sc' vm' tm' hr hv ht' ok hsl hi k (fun e => sw_true (g.hsc ▸ hk) (g.hsc ▸ e) hl ha) hy hyl hs
theorem sw_cell {elt : Expr} {gs : List Comprehension} {scope : Scope} {pos py : Pos} {y : Str} {l : Nat} {env : Env} (hy : env.scope.names.lookup y = some .cell) : swapsWithSole [.Name y py] (.ListComp elt gs scope pos) l env = pure false := by
  have ky : env.kindOf y = some .cell := hy
  show swapsWith (.ListComp elt gs scope pos) (some (.Name y py)) l env = pure false
  unfold swapsWith
  have h1 : ((some NameKind.cell : Option NameKind) == some NameKind.local) = false := rfl
  simp only [ky,h1,Bool.and_false,Bool.false_and]
theorem s_asC {q : Tg} {elt : Expr} {gs : List Comprehension} {scope : Scope} {lpos py : Pos} {y : Str} {ea : CE} (g : Cg X N sc vm tm n) (he : PE X (.ListComp elt gs scope lpos) (RE ca C ea)) (hg : PG X (.Name y py) (RG ca q)) (hy : sc.names.lookup y = some .cell := by rfl) : PS X (.Assign [.Name y py] (.ListComp elt gs scope lpos) pos) (RS ca C (.asg q ea)) :=
  ps_as he hg (sw_cell (g.hsc ▸ hy)) rfl rfl
end
theorem RpUs.pick {G : Hp} {φ : List Addr} {vs : List V} {us : List U} (r : RpUs G φ vs us) (ix : List Nat) : RpUs G φ (ix.filterMap fun i => vs[i]?) (ix.filterMap fun i => us[i]?) := by
  induction ix with
  | nil => exact .nil
  | cons i ix ih =>
    cases e : us[i]? with
    | none =>
      have e2 : vs[i]? = none := by
        rw [List.getElem?_eq_none_iff] at e ⊢
        rw [r.length]; exact e
      simp only [List.filterMap_cons,e,e2]
      exact ih
    | some u =>
      obtain ⟨v,e2,rv⟩ := r.get e
      simp only [List.filterMap_cons,e,e2]
      exact .cons rv ih
section
variable {ca : Nat → Addr} {X : Cx} {C : Cn} {a : Expr} {ea : CE} {pos p1 p2 p3 : Pos} {l : Bool}
end
section
variable {ca : Nat → Addr} {φ φ0 : List Addr} {G G0 H : Hp} {S : Cs}
theorem Sd.learn (s : Sd ca φ G H S) {q : Addr} {o : HO} (h : H q = some o) (hn : ∀ (i : Nat) (c : Cell),φ[i]? = some q → S[i]? = some c → ¬ live c) : Sd ca φ (upd G q o) H S := by
  refine ⟨s.len,s.nd,s.ex.into h,fun i a c h1 h2 h3 => ?_,s.kn,fun i a c h1 h2 => ?_⟩
  · rw [upd_ne (fun e : a = q => hn i c (by rw [← e]; exact h1) h2 h3)]
    exact s.off i a c h1 h2 h3
  · exact (s.cell i a c h1 h2).mono ⟨fun _ _ h => h,fun b u hb => by
      by_cases e : b = q
      · subst e
        rw [upd_same]
        have := s.ex _ _ hb
        rw [h] at this
        exact this
      · rw [upd_ne e]; exact hb⟩ rfl
theorem RpK.get : ∀ {ws : List (List L2.Key × V)} {kvs : List (Ky × U)} {i : Nat} {p : Ky × U},RpK G φ ws kvs → kvs[i]? = some p → ∃ v,ws[i]? = some (p.1,v)
  | _,_,i,p,.nil,h => by simp at h
  | _,_,0,p,.cons _ t,h => by simp at h; subst h; exact ⟨_,rfl⟩
  | _,_,i + 1,p,.cons _ t,h => by
    simp at h
    obtain ⟨v,e⟩ := RpK.get t h
    exact ⟨v,by simpa using e⟩
theorem Sd.lock (s : Sd ca φ G H S) {i : Nat} {a : Addr} {c : Cell} {o : HO} (hi : φ[i]? = some a) (hc : S[i]? = some c) (hl : live c) : Sd ca φ (upd G a o) (upd H a o) (S.set i .dead) := by
  refine (s.write (c' := .dead) hi hc hl trivial).learn upd_same fun j d h1 h2 hd => ?_
  have : j = i := by
    by_cases e : j = i
    · exact e
    · exact absurd rfl (nd_ne s.nd h1 hi e)
  subst this
  rw [List.getElem?_set_self (List.getElem?_eq_some_iff.mp hc).1] at h2
  cases h2
  exact hd
variable {X : Cx} {C : Cn} {e tg : Expr} {ea : CE} {es : List Expr} {pos : Pos} {N : List Str} {sc : Scope} {vm tm : List Bool} {n : Nat}
end
end Y
namespace Y
open PySem
theorem run_S {G : Pg} {j : Nat} {fd : FD} (h : G.defs j = some fd) (n : Nat) (O : Cs) (us : List U) (T : Cs) : Y.run G (n + 1) O j us T = bodyRun (cn G n) O fd us T := by
  rw [Y.run,h]
theorem bodyRun_eq {C : Cn} {O : Cs} {np ns : Nat} {b : CB} {us : List U} {T : Cs} (h : us.length = np) : bodyRun C O ⟨np,ns,b⟩ us T = match denB C O b (us.map some ++ List.replicate (ns - us.length) none) T with
    | .nx _ T' => .ok (.d .none) T'
    | .rt u T' => .ok u T'
    | .exc c fs _ T' => .exc c fs T'
    | _ => .fail := by
  unfold bodyRun
  rw [if_pos h] <;> rfl
def fin (r : F) : R U := match r with
    | .nx _ T' => .ok (.d .none) T'
    | .rt u T' => .ok u T'
    | .exc c fs _ T' => .exc c fs T'
    | _ => .fail
@[simp] theorem fin_nx (ρ : Rho) (T : Cs) : fin (.nx ρ T) = .ok (.d .none) T := rfl
@[simp] theorem fin_rt (u : U) (T : Cs) : fin (.rt u T) = .ok u T := rfl
@[simp] theorem fin_bk (ρ : Rho) (T : Cs) : fin (.bk ρ T) = .fail := rfl
@[simp] theorem fin_ct (ρ : Rho) (T : Cs) : fin (.ct ρ T) = .fail := rfl
@[simp] theorem fin_fail : fin .fail = .fail := rfl
section
variable {C : Cn} {O T : Cs} {ρ : Rho} {G : Pg} {n : Nat}
@[simp] theorem cn_call : (cn G n).call = Y.run G n := rfl
@[simp] theorem cn_make : (cn G n).make = Y.run G n := rfl
@[simp] theorem cn_glob : (cn G n).glob = G.glob := rfl
theorem denB_nx {s : CS} {b : CB} {ρ' : Rho} {T' : Cs} (h : denS C O s ρ T = .nx ρ' T') : denB C O (.cons s b) ρ T = denB C O b ρ' T' := by
  rw [denB,h]
theorem denB_rt {s : CS} {b : CB} {u : U} {T' : Cs} (h : denS C O s ρ T = .rt u T') : denB C O (.cons s b) ρ T = .rt u T' := by
  rw [denB,h]
end
section
variable (C : Cn) (O T : Cs) (ρ : Rho)
@[simp] theorem den_v (i : Nat) : den C O ρ (.v i) T = match ρ[i]? with
  | some (some u) => .ok u T
  | _ => .fail := by rw [den] <;> rfl
@[simp] theorem den_c (x : D) : den C O ρ (.c x) T = .ok (.d x) T := by rw [den]
@[simp] theorem den_g (k : Nat) : den C O ρ (.g k) T = match C.glob k with
    | some x => .ok (.d x) T
    | none => .fail := by rw [den] <;> rfl
@[simp] theorem den_bin (l o a b) : den C O ρ (.bin l o a b) T = (den C O ρ a T).bind fun x T => (den C O ρ b T).bind fun y T => binU O l o x y T := by rw [den]
@[simp] theorem den_neg (a) : den C O ρ (.neg a) T = (den C O ρ a T).bind fun x T => match x with
    | .d (.int i) => .ok (.d (.int (-i))) T
    | _ => .fail := by rw [den] <;> rfl
@[simp] theorem den_cmp (o a b) : den C O ρ (.cmp o a b) T = (den C O ρ a T).bind fun x T => (den C O ρ b T).bind fun y T => match cmpU O o x y T with
    | some k => .ok (.d (.bool k)) T
    | none => .fail := by rw [den] <;> rfl
@[simp] theorem den_chain (o o' a b e) : den C O ρ (.chain o o' a b e) T = (den C O ρ a T).bind fun x T => (den C O ρ b T).bind fun y T => brB (cmpU O o x y T) ((den C O ρ e T).bind fun z T => match cmpU O o' y z T with
      | some k => .ok (.d (.bool k)) T
      | none => .fail) (.ok (.d (.bool false)) T) := by
  rw [den] <;> rfl
@[simp] theorem den_and (a b) : den C O ρ (.and a b) T = (den C O ρ a T).bind fun x T => brB (asB x) (den C O ρ b T) (.ok (.d (.bool false)) T) := by rw [den]
@[simp] theorem den_or (a b) : den C O ρ (.or a b) T = (den C O ρ a T).bind fun x T => brB (asB x) (.ok (.d (.bool true)) T) (den C O ρ b T) := by rw [den]
@[simp] theorem den_not (a) : den C O ρ (.not a) T = (den C O ρ a T).bind fun x T => match asB x with
    | some b => .ok (.d (.bool (!b))) T
    | none => .fail := by rw [den] <;> rfl
@[simp] theorem den_ite (t a b) : den C O ρ (.ite t a b) T = (den C O ρ t T).bind fun x T => brB (asB x) (den C O ρ a T) (den C O ρ b T) := by rw [den]
@[simp] theorem den_tup (as) : den C O ρ (.tup as) T = (denA C O ρ as T).bind fun us T => if sizeOk us.length then .ok (mkT us) T else .fail := by rw [den]
@[simp] theorem den_lst (l as) : den C O ρ (.lst l as) T = (denA C O ρ as T).bind fun us T => if sizeOk us.length then mkL O l us T else .fail := by rw [den]
@[simp] theorem den_ix (a b) : den C O ρ (.ix a b) T = (den C O ρ a T).bind fun x T => (den C O ρ b T).bind fun y T => R.ofO T (ixU O x y T) := by rw [den]
@[simp] theorem den_slc (l a lo hi) : den C O ρ (.slc l a lo hi) T = (den C O ρ a T).bind fun x T => (if isSkip lo then .ok none T else (den C O ρ lo T).bind fun l T => partU l T).bind fun l' T =>
      (if isSkip hi then .ok none T else (den C O ρ hi T).bind fun h T => partU h T).bind fun h T => slcU O l x l' h T := by rw [den]
@[simp] theorem den_call (l f as ds) : den C O ρ (.call l f as ds) T = (denA C O ρ as T).bind fun us T => if l then C.call O f (us ++ ds.map .d) T else callP C O f (us ++ ds.map .d) T := by rw [den]
@[simp] theorem den_bi (l b as) : den C O ρ (.bi l b as) T = (denA C O ρ as T).bind fun us T => biU O l b us T := by rw [den]
@[simp] theorem den_mt (l m o as) : den C O ρ (.mt l m o as) T = (den C O ρ o T).bind fun x T => if tyM O T x = some (mtTy m) then (denA C O ρ as T).bind fun us T => mtU O l m x us T else .fail := by rw [den]
@[simp] theorem den_mcall (c f m o as) : den C O ρ (.mcall c f m o as) T = (den C O ρ o T).bind fun x T => if clsOf O T x = some c ∧ (fldU O x m T).isNone = true then (denA C O ρ as T).bind fun us T => C.call O f (x :: us) T else .fail := by rw [den]
@[simp] theorem den_mk (c f as) : den C O ρ (.mk c f as) T = (denA C O ρ as T).bind fun us T => (C.make O f (.ref (O.length + T.length) :: us) (T ++ [.ins c []])).bind fun v T' => if isNone v then .ok (.ref (O.length + T.length)) T' else .fail := by rw [den]
@[simp] theorem den_fld (c o f) : den C O ρ (.fld c o f) T = (den C O ρ o T).bind fun x T => if clsOf O T x = some c then R.ofO T (fldU O x f T) else .fail := by rw [den]
@[simp] theorem den_dict0 : den C O ρ .dict0 T = .ok (.ref (O.length + T.length)) (T ++ [.dct []]) := by rw [den]
@[simp] theorem den_frz (a) : den C O ρ (.frz a) T = (den C O ρ a T).bind fun x T => frzU O x T := by rw [den]
@[simp] theorem denA_nil : denA C O ρ .nil T = .ok [] T := by rw [denA]
@[simp] theorem denA_cons (a r) : denA C O ρ (.cons a r) T = (den C O ρ a T).bind fun u T => (denA C O ρ r T).bind fun us T => .ok (u :: us) T := by rw [denA]
@[simp] theorem denI_lst (a) : denI C O ρ (.lst a) T = (den C O ρ a T).bind fun x T => match seqL O T x with
    | some us => .ok ⟨us,watch x,T⟩ T
    | none => .fail := by rw [denI] <;> rfl
@[simp] theorem denI_tup (a) : denI C O ρ (.tup a) T = (den C O ρ a T).bind fun x T => match seqT x with
    | some us => .ok ⟨us,none,T⟩ T
    | none => .fail := by rw [denI] <;> rfl
@[simp] theorem denI_rng1 (a) : denI C O ρ (.rng1 a) T = (den C O ρ a T).bind fun x T => match x with
    | .d (.int j) => if rngOk 0 j then .ok ⟨rngU 0 j.toNat 1,none,T⟩ T else .fail
    | _ => .fail := by rw [denI] <;> rfl
@[simp] theorem denI_rng2 (a b) : denI C O ρ (.rng2 a b) T = (den C O ρ a T).bind fun x T => (den C O ρ b T).bind fun y T => match x,y with
    | .d (.int i),.d (.int j) => if rngOk i j then .ok ⟨rngU i (j - i).toNat 1,none,T⟩ T else .fail
    | _,_ => .fail := by rw [denI] <;> rfl
@[simp] theorem denI_enumL (a) : denI C O ρ (.enumL a) T = (den C O ρ a T).bind fun x T => match seqL O T x with
    | some us => .ok ⟨us.zipIdx.map fun p => mkT [.d (.int (p.2 : Nat)),p.1],watch x,T⟩ T
    | none => .fail := by rw [denI] <;> rfl
@[simp] theorem denI_enumT (a) : denI C O ρ (.enumT a) T = (den C O ρ a T).bind fun x T => match seqT x with
    | some us => .ok ⟨us.zipIdx.map fun p => mkT [.d (.int (p.2 : Nat)),p.1],none,T⟩ T
    | none => .fail := by rw [denI] <;> rfl
@[simp] theorem denI_revL (a) : denI C O ρ (.revL a) T = (den C O ρ a T).bind fun x T => match seqL O T x with
    | some us => .ok ⟨us.reverse,watch x,T⟩ T
    | none => .fail := by rw [denI] <;> rfl
@[simp] theorem denI_str (a) : denI C O ρ (.str a) T = (den C O ρ a T).bind fun x T => match x with
    | .d (.str s) => .ok ⟨s.cps.toList.map fun c => .d (.str ⟨#[c]⟩),none,T⟩ T
    | _ => .fail := by rw [denI] <;> rfl
theorem denS_asg (g e) : denS C O (.asg g e) ρ T = F.of ρ (den C O ρ e T) fun u T => match asgT O T g u ρ with
    | some ρ' => .nx ρ' T
    | none => .fail := by rw [denS] <;> rfl
@[simp] theorem denS_ex (e) : denS C O (.ex e) ρ T = F.of ρ (den C O ρ e T) fun _ T => .nx ρ T := by rw [denS]
@[simp] theorem denS_ret (e) : denS C O (.ret e) ρ T = F.of ρ (den C O ρ e T) fun u T => .rt u T := by rw [denS]
@[simp] theorem denS_retN : denS C O .retN ρ T = .rt (.d .none) T := by rw [denS]
@[simp] theorem denS_brk : denS C O .brk ρ T = .bk ρ T := by rw [denS]
@[simp] theorem denS_cnt : denS C O .cnt ρ T = .ct ρ T := by rw [denS]
@[simp] theorem denS_pass : denS C O .pass ρ T = .nx ρ T := by rw [denS]
theorem denS_ite (t a b) : denS C O (.ite t a b) ρ T = F.of ρ (den C O ρ t T) fun x T => match asB x with
    | some true => denB C O a ρ T
    | some false => denB C O b ρ T
    | none => .fail := by rw [denS] <;> rfl
@[simp] theorem denS_seti (o i e) : denS C O (.seti o i e) ρ T = F.of ρ (den C O ρ e T) fun v T => F.of ρ (den C O ρ o T) fun x T => F.of ρ (den C O ρ i T) fun y T => F.of ρ (setiU O x y v T) fun _ T => .nx ρ T := by rw [denS]
@[simp] theorem denS_setf (c o f e) : denS C O (.setf c o f e) ρ T = F.of ρ (den C O ρ e T) fun v T => F.of ρ (den C O ρ o T) fun x T => if clsOf O T x = some c then F.of ρ (setfU O x f v T) fun _ T => .nx ρ T else .fail := by rw [denS]
theorem denB_nil : denB C O .nil ρ T = .nx ρ T := by rw [denB]
@[simp] theorem asgT_nm (i u) : asgT O T (.nm i) u ρ = some (ρ.set i (some u)) := by rw [asgT]
@[simp] theorem asgT_tp (ts u) : asgT O T (.tp ts) u ρ = match seqT u with
  | some us => asgTs O T ts us ρ
  | none => none := by rw [asgT] <;> rfl
@[simp] theorem asgTs_nil : asgTs O T .nil [] ρ = some ρ := by rw [asgTs]
@[simp] theorem asgTs_cons (t ts u us) : asgTs O T (.cons t ts) (u :: us) ρ = match asgT O T t u ρ with
    | some ρ' => asgTs O T ts us ρ'
    | none => none := by rw [asgTs] <;> rfl
@[simp] theorem asB_bool (b : Bool) : asB (.d (.bool b)) = some b := rfl
@[simp] theorem isSkip_skip : isSkip .skip = true := rfl
@[simp] theorem isSkip_v (i) : isSkip (.v i) = false := rfl
@[simp] theorem isSkip_c (i) : isSkip (.c i) = false := rfl
@[simp] theorem isSkip_bin (l o a b) : isSkip (.bin l o a b) = false := rfl
@[simp] theorem isSkip_bi (l o a) : isSkip (.bi l o a) = false := rfl
@[simp] theorem isSkip_g (i) : isSkip (.g i) = false := rfl
@[simp] theorem partU_int (i : Int) : partU (.d (.int i)) T = .ok (some i) T := rfl
@[simp] theorem seqL_d (ds : List D) : seqL O T (.d (.list ds)) = some (ds.map .d) := rfl
@[simp] theorem seqT_d (ds : List D) : seqT (.d (.tuple ds)) = some (ds.map .d) := rfl
@[simp] theorem seqT_t (us : List U) : seqT (.tup us) = some us := rfl
@[simp] theorem seqL_int (i : Int) : seqL O T (.d (.int i)) = none := rfl
@[simp] theorem seqL_tup (i) : seqL O T (.d (.tuple i)) = none := rfl
@[simp] theorem seqL_tupU (i) : seqL O T (.tup i) = none := rfl
@[simp] theorem seqL_str (i) : seqL O T (.d (.str i)) = none := rfl
@[simp] theorem seqL_ref (i) : seqL O T (.ref i) = match getC O T i with
    | some (.lst ds) => some (ds.map .d)
    | some (.lstU us) => some us
    | _ => none := rfl
@[simp] theorem seqA_L (ds : List D) : seqA O T (.d (.list ds)) = some (ds.map .d) := rfl
@[simp] theorem seqA_T (ds : List D) : seqA O T (.d (.tuple ds)) = some (ds.map .d) := rfl
@[simp] theorem watch_d (x : D) : watch (.d x) = none := rfl
@[simp] theorem sameW_none (T' : Cs) : sameW O T T' none = true := rfl
@[simp] theorem allD_nil : allD [] = some [] := rfl
@[simp] theorem allD_cons (x : D) (r : List U) : allD (.d x :: r) = (allD r).map (x :: ·) := rfl
@[simp] theorem mkL_map (ds : List D) : mkL O false (ds.map .d) T = .ok (.d (.list ds)) T := by unfold mkL; simp
@[simp] theorem mkL_f (us : List U) : mkL O false us T = match allD us with
    | some ds => .ok (.d (.list ds)) T
    | none => .fail := rfl
@[simp] theorem mkL_t (us : List U) : mkL O true us T = .ok (.ref (O.length + T.length)) (T ++ [cellOf us]) := rfl
@[simp] theorem cellOf_map (ds : List D) : cellOf (ds.map .d) = .lst ds := by unfold cellOf; simp
@[simp] theorem cellOf_nil : cellOf [] = .lst [] := rfl
@[simp] theorem mkT_map (ds : List D) : mkT (ds.map .d) = .d (.tuple ds) := by unfold mkT; simp
@[simp] theorem allD_ref (i : Nat) (r : List U) : allD (.ref i :: r) = none := rfl
@[simp] theorem allD_tup (i : List U) (r : List U) : allD (.tup i :: r) = none := rfl
@[simp] theorem mkT_4 (a b c d : D) : mkT [.d a,.d b,.d c,.d d] = .d (.tuple [a,b,c,d]) := rfl
@[simp] theorem mkT_5 (a b c d e : D) : mkT [.d a,.d b,.d c,.d d,.d e] = .d (.tuple [a,b,c,d,e]) := rfl
@[simp] theorem mkT_6 (a b c d e f : D) : mkT [.d a,.d b,.d c,.d d,.d e,.d f] = .d (.tuple [a,b,c,d,e,f]) := rfl
@[simp] theorem mkT_7 (a b c d e f g : D) : mkT [.d a,.d b,.d c,.d d,.d e,.d f,.d g] = .d (.tuple [a,b,c,d,e,f,g]) := rfl
@[simp] theorem mkT_1 (a : D) : mkT [.d a] = .d (.tuple [a]) := rfl
@[simp] theorem mkT_2 (a b : D) : mkT [.d a,.d b] = .d (.tuple [a,b]) := rfl
@[simp] theorem mkT_3 (a b c : D) : mkT [.d a,.d b,.d c] = .d (.tuple [a,b,c]) := rfl
@[simp] theorem mkT_0 : mkT [] = .d (.tuple []) := rfl
@[simp] theorem binU_int (l o) (i j : Int) : binU O l o (.d (.int i)) (.d (.int j)) T = match binI o i j with
    | some k => .ok (.d (.int k)) T
    | none => .fail := by cases o <;> rfl
@[simp] theorem binI_add (i j : Int) : binI .add i j = some (i + j) := rfl
@[simp] theorem binI_sub (i j : Int) : binI .sub i j = some (i - j) := rfl
@[simp] theorem binI_band (i j : Int) : binI .band i j = some (Builtin.bitAnd i j) := rfl
@[simp] theorem binI_bor (i j : Int) : binI .bor i j = some (Builtin.bitOr i j) := rfl
@[simp] theorem binI_bxor (i j : Int) : binI .bxor i j = some (Builtin.bitXor i j) := rfl
@[simp] theorem binI_mul (i j : Int) : binI .mul i j = if mulOk i j then some (i * j) else none := rfl
@[simp] theorem binI_fdiv (i j : Int) : binI .fdiv i j = if 0 < j ∧ j < 1000000000000000000000000000000000000000000000000000000000000 then some (i / j) else none := rfl
@[simp] theorem binI_mod (i j : Int) : binI .mod i j = if 0 < j then some (i % j) else none := rfl
@[simp] theorem binI_shr (i j : Int) : binI .shr i j = if 0 ≤ j then some (i / 2 ^ j.toNat) else none := rfl
@[simp] theorem binI_shl (i j : Int) : binI .shl i j = if 0 ≤ j ∧ j ≤ 1000 ∧ -18446744073709551616 < i ∧ i < 18446744073709551616 then some (i * 2 ^ j.toNat) else none := rfl
@[simp] theorem binI_pow (i j : Int) : binI .pow i j = if 0 ≤ j ∧ j ≤ 1000 ∧ -18446744073709551616 < i ∧ i < 18446744073709551616 then some (i ^ j.toNat) else none := rfl
@[simp] theorem binU_cat (l) (a b : List D) : binU O l .add (.d (.list a)) (.d (.list b)) T = if sizeOk (a.length + b.length) then mkL O l ((a ++ b).map .d) T else .fail := by
  unfold binU
  simp
@[simp] theorem binU_catT (l) (a b : List D) : binU O l .add (.d (.tuple a)) (.d (.tuple b)) T = if sizeOk (a.length + b.length) then .ok (.d (.tuple (a ++ b))) T else .fail := by
  unfold binU
  simp [← List.map_append]
@[simp] theorem binU_str (l) (a b : Str) : binU O l .add (.d (.str a)) (.d (.str b)) T = if sizeOk (a.length + b.length) then .ok (.d (.str (a ++ b))) T else .fail := rfl
@[simp] theorem isNone_none : isNone (.d .none) = true := rfl
@[simp] theorem isNone_int (i) : isNone (.d (.int i)) = false := rfl
@[simp] theorem isNone_str (i) : isNone (.d (.str i)) = false := rfl
@[simp] theorem isNone_list (i) : isNone (.d (.list i)) = false := rfl
@[simp] theorem isNone_tuple (i) : isNone (.d (.tuple i)) = false := rfl
@[simp] theorem isNone_tup (i) : isNone (.tup i) = false := rfl
@[simp] theorem isNone_ref (i) : isNone (.ref i) = false := rfl
@[simp] theorem cmp_isN (x : U) : cmpU O .is x (.d .none) T = some (isNone x) := rfl
@[simp] theorem cmp_notN (x : U) : cmpU O .isnot x (.d .none) T = some (!isNone x) := rfl
@[simp] theorem cmp_lt (i j : Int) : cmpU O .lt (.d (.int i)) (.d (.int j)) T = some (decide (i < j)) := rfl
@[simp] theorem cmp_le (i j : Int) : cmpU O .le (.d (.int i)) (.d (.int j)) T = some (decide (i ≤ j)) := rfl
@[simp] theorem cmp_gt (i j : Int) : cmpU O .gt (.d (.int i)) (.d (.int j)) T = some (decide (j < i)) := rfl
@[simp] theorem cmp_ge (i j : Int) : cmpU O .ge (.d (.int i)) (.d (.int j)) T = some (decide (j ≤ i)) := rfl
@[simp] theorem cmp_eqI (i j : Int) : cmpU O .eq (.d (.int i)) (.d (.int j)) T = some (decide (i = j)) := by
  have h : ∀ k : Int,shp (.int k) = true := fun k => rfl
  show (if shp (.int i) && shp (.int j) then some (PyData.eqv (.int i) (.int j)) else none) = _
  rw [h,h]
  rfl
@[simp] theorem cmp_neI (i j : Int) : cmpU O .ne (.d (.int i)) (.d (.int j)) T = some (!decide (i = j)) := by
  have h : ∀ k : Int,shp (.int k) = true := fun k => rfl
  show (if shp (.int i) && shp (.int j) then some (!PyData.eqv (.int i) (.int j)) else none) = _
  rw [h,h]
  rfl
@[simp] theorem sizeOk_iff (k : Nat) : sizeOk k = decide (k ≤ 1000000) := rfl
@[simp] theorem mtTy_append : mtTy .append = .list := rfl
@[simp] theorem mtTy_pop : mtTy .pop = .list := rfl
@[simp] theorem tyM_none : tyM O T (.d .none) = tyU O T (.d .none) := rfl
@[simp] theorem tyM_bool (i) : tyM O T (.d (.bool i)) = tyU O T (.d (.bool i)) := rfl
@[simp] theorem tyM_int (i) : tyM O T (.d (.int i)) = tyU O T (.d (.int i)) := rfl
@[simp] theorem tyM_str (i) : tyM O T (.d (.str i)) = tyU O T (.d (.str i)) := rfl
@[simp] theorem tyM_list (i) : tyM O T (.d (.list i)) = tyU O T (.d (.list i)) := rfl
@[simp] theorem tyM_tuple (i) : tyM O T (.d (.tuple i)) = tyU O T (.d (.tuple i)) := rfl
@[simp] theorem tyM_tup (us : List U) : tyM O T (.tup us) = tyU O T (.tup us) := rfl
@[simp] theorem tyM_iff {x : U} {t : Ty} (h : tyU O T x = some t) : (tyM O T x = some t) = True := eq_true (tyM_of h)
@[simp] theorem tyU_int (i) : tyU O T (.d (.int i)) = some .int := rfl
@[simp] theorem tyU_bool (i) : tyU O T (.d (.bool i)) = some .bool := rfl
@[simp] theorem tyU_none : tyU O T (.d .none) = some .non := rfl
@[simp] theorem tyU_str (i) : tyU O T (.d (.str i)) = some .str := rfl
@[simp] theorem tyU_list (i) : tyU O T (.d (.list i)) = some .list := rfl
@[simp] theorem tyU_tuple (i) : tyU O T (.d (.tuple i)) = some .tuple := rfl
@[simp] theorem tyU_tup (i) : tyU O T (.tup i) = some .tuple := rfl
@[simp] theorem isB_eq (t : Ty) (x : U) : isB O T t x = match tyU O T x with
  | some a => .ok (.d (.bool (decide (a = t) || (decide (a = .bool) && decide (t = .int))))) T
  | none => .fail := rfl
@[simp] theorem biU_len (l us) : biU O l .len us T = one us (lenB O T) := rfl
@[simp] theorem biU_list (l us) : biU O l .list us T = one us (listB O l T) := rfl
@[simp] theorem biU_tuple (l us) : biU O l .tuple us T = one us (tupleB O T) := rfl
@[simp] theorem biU_int (l us) : biU O l .int us T = one us (intB T) := rfl
@[simp] theorem biU_abs (l us) : biU O l .abs us T = one us (absB T) := rfl
@[simp] theorem biU_sum (l us) : biU O l .sum us T = one us (sumB O T) := rfl
@[simp] theorem biU_all (l us) : biU O l .all us T = one us (allB O T) := rfl
@[simp] theorem biU_any (l us) : biU O l .any us T = one us (anyB O T) := rfl
@[simp] theorem biU_str (l us) : biU O l .str us T = one us (strB T) := rfl
@[simp] theorem biU_isint (l us) : biU O l .isint us T = one us (isB O T .int) := rfl
@[simp] theorem biU_isbool (l us) : biU O l .isbool us T = one us (isB O T .bool) := rfl
@[simp] theorem biU_isstr (l us) : biU O l .isstr us T = one us (isB O T .str) := rfl
@[simp] theorem biU_islist (l us) : biU O l .islist us T = one us (isB O T .list) := rfl
@[simp] theorem biU_istuple (l us) : biU O l .istuple us T = one us (isB O T .tuple) := rfl
@[simp] theorem biU_isdict (l us) : biU O l .isdict us T = one us (isB O T .dict) := rfl
@[simp] theorem lenB_L (ds : List D) : lenB O T (.d (.list ds)) = .ok (.d (.int ds.length)) T := by
  show R.ok (U.d (.int (ds.map U.d).length)) T = _
  rw [List.length_map]
@[simp] theorem lenB_T (ds : List D) : lenB O T (.d (.tuple ds)) = .ok (.d (.int ds.length)) T := by
  show R.ok (U.d (.int (ds.map U.d).length)) T = _
  rw [List.length_map]
@[simp] theorem lenB_S (s : Str) : lenB O T (.d (.str s)) = if sizeOk s.length then .ok (.d (.int s.length)) T else .fail := rfl
@[simp] theorem listB_L (l) (ds : List D) : listB O l T (.d (.list ds)) = mkL O l (ds.map .d) T := rfl
@[simp] theorem listB_T (l) (ds : List D) : listB O l T (.d (.tuple ds)) = mkL O l (ds.map .d) T := rfl
@[simp] theorem tupleB_L (ds : List D) : tupleB O T (.d (.list ds)) = .ok (.d (.tuple ds)) T := by
  show R.ok (mkT (ds.map U.d)) T = _
  rw [mkT_map]
@[simp] theorem tupleB_T (ds : List D) : tupleB O T (.d (.tuple ds)) = .ok (.d (.tuple ds)) T := rfl
@[simp] theorem ixU_L (ds : List D) (i : Int) : ixU O (.d (.list ds)) (.d (.int i)) T = (L2.atI ds i).map .d := rfl
@[simp] theorem ixU_T (ds : List D) (i : Int) : ixU O (.d (.tuple ds)) (.d (.int i)) T = (L2.atI ds i).map .d := rfl
@[simp] theorem allD_app : ∀ (a b : List U),allD (a ++ b) = (allD a).bind fun x => (allD b).map (x ++ ·)
  | [],b => by cases h : allD b <;> simp [allD,h]
  | .d x :: r,b => by
    rw [List.cons_append,allD,allD,allD_app r b]
    cases allD r <;> cases allD b <;> simp
  | .ref _ :: r,b => rfl
  | .tup _ :: r,b => rfl
@[simp] theorem allD_comp {α : Type} (f : α → D) (xs : List α) : allD (xs.map (U.d ∘ f)) = some (xs.map f) := allD_map' f xs
@[simp] theorem mkT_comp {α : Type} (f : α → D) (xs : List α) : mkT (xs.map (U.d ∘ f)) = .d (.tuple (xs.map f)) := by unfold mkT; simp
@[simp] theorem cellOf_comp {α : Type} (f : α → D) (xs : List α) : cellOf (xs.map (U.d ∘ f)) = .lst (xs.map f) := by unfold cellOf; simp
end
section
variable {C : Cn} {O T : Cs}
theorem callP_d {f us x T'} (h : C.call (O ++ T) f us [] = .ok (.d x) T') : callP C O f us T = .ok (.d x) T := by
  unfold callP
  rw [h]
theorem callP_r {G : Pg} {n f : Nat} {us : List U} {x : D} {T' : Cs} (O T : Cs) (h : Y.run G n (O ++ T) f us [] = .ok (.d x) T') : callP (cn G n) O f us T = .ok (.d x) T := callP_d (C := cn G n) h
end
end Y
namespace Y
open PySem
def Wp (r : F) (nx bk ct : Rho → Cs → Prop) (rt : U → Cs → Prop) : Prop := match r with
  | .nx ρ T => nx ρ T
  | .rt u T => rt u T
  | .bk ρ T => bk ρ T
  | .ct ρ T => ct ρ T
  | _ => False
def brF (o : Option Bool) (a b : F) : F := match o with
  | some true => a
  | some false => b
  | none => .fail
@[simp] theorem brF_t (a b : F) : brF (some true) a b = a := rfl
@[simp] theorem brF_f (a b : F) : brF (some false) a b = b := rfl
@[simp] theorem brF_d (p : Prop) [Decidable p] (a b : F) : brF (some (decide p)) a b = if p then a else b := by
  by_cases h : p <;> simp [h]
@[simp] theorem brF_nd (p : Bool) (a b : F) : brF (some (!p)) a b = brF (some p) b a := by cases p <;> rfl
@[simp] theorem brF_b (p : Bool) (a b : F) : brF (some p) a b = if p = true then a else b := by cases p <;> rfl
def Kc (C : Cn) (O : Cs) (b : CB) (nx bk ct : Rho → Cs → Prop) (rt : U → Cs → Prop) (ρ : Rho) (T : Cs) : Prop := Wp (denB C O b ρ T) nx bk ct rt
section
variable {C : Cn} {O T : Cs} {ρ : Rho} {G : Pg} {n : Nat} {nx bk ct : Rho → Cs → Prop} {rt : U → Cs → Prop}
@[simp] theorem Kc_eq (b : CB) : Kc C O b nx bk ct rt ρ T = Wp (denB C O b ρ T) nx bk ct rt := rfl
@[simp] theorem wp_nx : Wp (.nx ρ T) nx bk ct rt = nx ρ T := rfl
@[simp] theorem wp_rt (u : U) : Wp (.rt u T) nx bk ct rt = rt u T := rfl
@[simp] theorem wp_bk : Wp (.bk ρ T) nx bk ct rt = bk ρ T := rfl
@[simp] theorem wp_ct : Wp (.ct ρ T) nx bk ct rt = ct ρ T := rfl
@[simp] theorem wp_if (p : Prop) [Decidable p] (a b : F) : Wp (if p then a else b) nx bk ct rt = ((p → Wp a nx bk ct rt) ∧ (¬ p → Wp b nx bk ct rt)) := by
  by_cases h : p <;> simp [h]
@[simp] theorem wp_nil : Wp (denB C O .nil ρ T) nx bk ct rt = nx ρ T := by rw [denB] <;> rfl
@[simp] theorem wp_cons (s : CS) (b : CB) : Wp (denB C O (.cons s b) ρ T) nx bk ct rt = Wp (denS C O s ρ T) (Kc C O b nx bk ct rt) bk ct rt := by
  rw [denB]
  cases denS C O s ρ T <;> rfl
@[simp] theorem wpS_asg (g e) : denS C O (.asg g e) ρ T = F.of ρ (den C O ρ e T) fun u T => match asgT O T g u ρ with
    | some ρ' => .nx ρ' T
    | none => .fail := by rw [denS] <;> rfl
@[simp] theorem wpS_ite (t a b) : denS C O (.ite t a b) ρ T = F.of ρ (den C O ρ t T) fun x T => brF (asB x) (denB C O a ρ T) (denB C O b ρ T) := by
  rw [denS]
  congr 1
@[simp] theorem brR_F (p : Prop) [Decidable p] (a b : R U) (k : U → Cs → F) : F.of ρ (if p then a else b) k = if p then F.of ρ a k else F.of ρ b k := by
  by_cases h : p <;> simp [h]
@[simp] theorem bind_if {α β : Type} (p : Prop) [Decidable p] (a b : R α) (k : α → Cs → R β) : (if p then a else b).bind k = if p then a.bind k else b.bind k := by
  by_cases h : p <;> simp [h]
theorem wp_for {g : Tg} {it : IT} {b : CB} (its : Its) (T0 : Cs) (I : Nat → Rho → Cs → Prop) (e : denI C O ρ it T = .ok its T0) (h0 : I 0 ρ T0) (hw : ∀ i ρ T,I i ρ T → sameW O its.t T its.w = true)
    (h : ∀ i u,its.us[i]? = some u → ∀ ρ T,I i ρ T → ∃ ρ1,asgT O T g u ρ = some ρ1 ∧ Wp (denB C O b ρ1 T) (I (i + 1)) nx (I (i + 1)) rt) (hx : ∀ ρ T,I its.us.length ρ T → nx ρ T) : Wp (denS C O (.for_ g it b) ρ T) nx bk ct rt := by
  rw [denS,e]
  simp only
  suffices k : ∀ (us : List U) (i : Nat) (ρ : Rho) (T : Cs),its.us.drop i = us → i ≤ its.us.length → I i ρ T → Wp (loopF (fun u ρ T => match asgT O T g u ρ with
        | some ρ' => denB C O b ρ' T
        | none => .fail) (fun T' => sameW O its.t T' its.w) us ρ T) nx bk ct rt from k its.us 0 ρ T0 rfl (Nat.zero_le _) h0
  intro us
  induction us with
  | nil =>
    intro i ρ T hd hi hI
    have : its.us.length ≤ i := List.drop_eq_nil_iff.mp hd
    have e : i = its.us.length := by omega
    subst e
    rw [loopF,if_pos (hw _ _ _ hI)]
    exact hx _ _ hI
  | cons u us ih =>
    intro i ρ T hd hi hI
    have hlt : i < its.us.length := by
      rcases Nat.lt_or_ge i its.us.length with h | h
      · exact h
      · rw [List.drop_eq_nil_of_le h] at hd; cases hd
    have hu : its.us[i]? = some u := by
      rw [List.drop_eq_getElem_cons hlt] at hd
      rw [List.getElem?_eq_getElem hlt]
      cases hd; rfl
    have hd' : its.us.drop (i + 1) = us := by rw [List.drop_eq_getElem_cons hlt] at hd; cases hd; rfl
    obtain ⟨ρ1,e1,e2⟩ := h i u hu ρ T hI
    rw [loopF_c _ _ _ _ _ _ (hw _ _ _ hI)]
    simp only [e1]
    cases e3 : denB C O b ρ1 T with
    | nx ρ2 T2 => rw [e3] at e2; exact ih (i + 1) ρ2 T2 hd' hlt e2
    | ct ρ2 T2 => rw [e3] at e2; exact ih (i + 1) ρ2 T2 hd' hlt e2
    | bk ρ2 T2 => rw [e3] at e2; exact e2
    | rt u T2 => rw [e3] at e2; exact e2
    | exc => rw [e3] at e2; exact e2
    | fail => rw [e3] at e2; exact e2
def Gv (r : R U) (P : U → Cs → Prop) : Prop := match r with
  | .ok u T => P u T
  | _ => False
theorem Gv.eq {r : R U} {u : U} {T : Cs} (h : Gv r fun u' T' => u' = u ∧ T' = T) : r = .ok u T := by
  cases r with
  | ok u' T' => obtain ⟨rfl,rfl⟩ := h; rfl
  | exc => exact h.elim
  | fail => exact h.elim
theorem Gv.ex {r : R U} {P : U → Cs → Prop} (h : Gv r P) : ∃ u T,r = .ok u T ∧ P u T := by
  cases r with
  | ok u' T' => exact ⟨_,_,rfl,h⟩
  | exc => exact h.elim
  | fail => exact h.elim
theorem run_wp {j np ns : Nat} {b : CB} {us : List U} {P : U → Cs → Prop} (hG : G.defs j = some ⟨np,ns,b⟩) (hl : us.length = np) (h : Wp (denB (cn G n) O b (us.map some ++ List.replicate (ns - us.length) none) T) (fun _ T' => P (.d .none) T') (fun _ _ => False) (fun _ _ => False) P) : Gv (Y.run G (n + 1) O j us T) P := by
  rw [run_S hG,bodyRun_eq hl]
  cases e : denB (cn G n) O b (us.map some ++ List.replicate (ns - us.length) none) T with
  | nx ρ T' => rw [e] at h; exact h
  | rt u T' => rw [e] at h; exact h
  | bk ρ T' => rw [e] at h; exact h.elim
  | ct ρ T' => rw [e] at h; exact h.elim
  | exc => rw [e] at h; exact h.elim
  | fail => rw [e] at h; exact h.elim
end
mutual
theorem beqD_r : ∀ a : Y.D,beqD a a = true
  | .none => rfl
  | .bool b => by simp [beqD]
  | .int b => by simp [beqD]
  | .str b => by simp [beqD]
  | .list b => by simp [beqD,beqDs_r b]
  | .tuple b => by simp [beqD,beqDs_r b]
  | .dict b => by simp [beqD,beqDp_r b]
theorem beqDp_r : ∀ a : List (Y.D × Y.D),beqDp a a = true
  | [] => rfl
  | (a,x) :: r => by simp [beqDp,beqD_r a,beqD_r x,beqDp_r r]
theorem beqDs_r : ∀ a : List Y.D,beqDs a a = true
  | [] => rfl
  | a :: r => by simp [beqDs,beqD_r a,beqDs_r r]
end
mutual
theorem beqU_r : ∀ a : U,beqU a a = true
  | .d x => by simp [beqU,beqD_r]
  | .ref i => by simp [beqU]
  | .tup us => by simp [beqU,beqUs_r us]
theorem beqUs_r : ∀ a : List U,beqUs a a = true
  | [] => rfl
  | a :: r => by simp [beqUs,beqU_r a,beqUs_r r]
end
theorem beqDk_r : ∀ a : List (Ky × Y.D),beqDk a a = true
  | [] => rfl
  | (k,x) :: r => by simp [beqDk,beqD_r,beqDk_r r]
theorem beqUk_r : ∀ a : List (Ky × U),beqUk a a = true
  | [] => rfl
  | (k,x) :: r => by simp [beqUk,beqU_r,beqUk_r r]
theorem beqFs_r : ∀ a : List (Str × U),beqFs a a = true
  | [] => rfl
  | (k,x) :: r => by simp [beqFs,beqU_r,beqFs_r r]
theorem beqA_r : ∀ a : Cell,beqA a a = true
  | .lst ds => by simp [beqA,beqDs_r]
  | .lstU ds => by simp [beqA,beqUs_r]
  | .dct ds => by simp [beqA,beqDk_r]
  | .dctU ds => by simp [beqA,beqUk_r]
  | .dctL ds => by simp [beqA,beqUk_r]
  | .ins c ds => by simp [beqA,beqFs_r]
  | .exn c ds => by simp [beqA,beqFs_r]
  | .dctS ds => by simp [beqA]
  | .dead => rfl
theorem beqCs_r : ∀ a : Cs,beqCs a a = true
  | [] => rfl
  | a :: r => by simp [beqCs,beqA_r,beqCs_r r]
theorem sameW_refl {O T T' : Cs} {i : Nat} {c : Cell} (h : getC O T i = some c) (h' : getC O T' i = some c) (hl : (∃ ds,c = .lst ds) ∨ (∃ us,c = .lstU us) ∨ (∃ k,c = .dct k) ∨ ∃ k,c = .dctU k) : sameW O T T' (some i) = true := by
  unfold sameW
  simp only [h,h']
  rcases hl with ⟨x,rfl⟩ | ⟨x,rfl⟩ | ⟨x,rfl⟩ | ⟨x,rfl⟩
  · exact beqDs_r x
  · exact beqUs_r x
  · exact beqDk_r x
  · exact beqUk_r x
theorem getC_app {O T S : Cs} {i : Nat} {c : Cell} (h : getC O T i = some c) : getC O (T ++ S) i = some c := by
  rw [getC_eq] at h ⊢
  rw [← List.append_assoc,List.getElem?_append_left (List.getElem?_eq_some_iff.mp h).1]
  exact h
section
variable {C : Cn} {O T : Cs} {ρ : Rho} {elt t : CE} {g : Tg} {it : IT} {own : List Nat} {us : List U} {w : Option Nat} {tt : Cs}
def Turn1 (C : Cn) (O : Cs) (ρ : Rho) (elt t : CE) (g : Tg) (own : List Nat) (T1 : Cs) (u : U) (r : Option U) : Prop :=
  ∃ ρ1,asgT O T1 g u (wipeR ρ own) = some ρ1 ∧ match r with
    | some y => den C O ρ1 t T1 = .ok (.d (.bool true)) T1 ∧ den C O ρ1 elt T1 = .ok y T1
    | none => den C O ρ1 t T1 = .ok (.d (.bool false)) T1
theorem comp_run (f : U → Option U) (hw : ∀ acc,sameW O tt (T ++ [.lstU acc]) w = true) (h : ∀ u ∈ us,∀ acc,Turn1 C O ρ elt t g own (T ++ [.lstU acc]) u (f u)) (hl : us.length ≤ 1000000) :
    compC (fun u T => match asgT O T g u (wipeR ρ own) with
        | some ρ' => (den C O ρ' t T).bind fun b T => brB (asB b) ((den C O ρ' elt T).bind fun y T => .ok (some y) T) (.ok none T)
        | none => .fail) (fun T' => sameW O tt T' w) T.length us (T ++ [.lstU []]) = .ok () (T ++ [.lstU (us.filterMap f)]) := by
  suffices k : ∀ (vs : List U) (acc : List U),acc.length + vs.length ≤ 1000000 → (∀ u ∈ vs,u ∈ us) → compC (fun u T => match asgT O T g u (wipeR ρ own) with
        | some ρ' => (den C O ρ' t T).bind fun b T => brB (asB b) ((den C O ρ' elt T).bind fun y T => .ok (some y) T) (.ok none T)
        | none => .fail) (fun T' => sameW O tt T' w) T.length vs (T ++ [.lstU acc]) = .ok () (T ++ [.lstU (acc ++ vs.filterMap f)]) by
    have := k us [] (by simpa using hl) (fun _ h => h)
    simpa using this
  intro vs
  induction vs with
  | nil =>
    intro acc _ _
    rw [compC,if_pos (hw acc)]
    simp
  | cons v vs ih =>
    intro acc hz hs
    rw [compC,if_pos (hw acc)]
    obtain ⟨ρ1,e1,e2⟩ := h v (hs v List.mem_cons_self) acc
    simp only [e1]
    cases ef : f v with
    | none =>
      rw [ef] at e2
      have e2 : den C O ρ1 t (T ++ [.lstU acc]) = .ok (.d (.bool false)) (T ++ [.lstU acc]) := e2
      simp only [e2,R.bind_ok,asB_bool,brB_f,putC]
      rw [ih acc (by simp at hz; omega) (fun u hu => hs u (List.mem_cons_of_mem _ hu))]
      simp [ef]
    | some y =>
      rw [ef] at e2
      have e3 : den C O ρ1 t (T ++ [.lstU acc]) = .ok (.d (.bool true)) (T ++ [.lstU acc]) := e2.1
      have e4 : den C O ρ1 elt (T ++ [.lstU acc]) = .ok y (T ++ [.lstU acc]) := e2.2
      simp only [e3,e4,R.bind_ok,asB_bool,brB_t,putC]
      have e5 : (T ++ [Cell.lstU acc])[T.length]? = some (.lstU acc) := by simp
      simp only [e5]
      rw [if_pos (by simp at hz ⊢; omega)]
      simp only [R.bind_ok]
      have e6 : (T ++ [Cell.lstU acc]).set T.length (.lstU (acc ++ [y])) = T ++ [.lstU (acc ++ [y])] := by
        rw [List.set_append_right (h := Nat.le_refl _)]
        simp
      rw [e6,ih (acc ++ [y]) (by simp at hz ⊢; omega) (fun u hu => hs u (List.mem_cons_of_mem _ hu))]
      simp [ef]
theorem comp_d (f : U → Option U) {ds : List Y.D} (he : denI C O ρ it T = .ok ⟨us,w,tt⟩ T) (hw : ∀ acc,sameW O tt (T ++ [.lstU acc]) w = true) (h : ∀ u ∈ us,∀ acc,Turn1 C O ρ elt t g own (T ++ [.lstU acc]) u (f u)) (hl : us.length ≤ 1000000) (hd : us.filterMap f = ds.map .d) :
    den C O ρ (.comp false elt g it t own) T = .ok (.d (.list ds)) T := by
  rw [den,he,R.bind_ok]
  refine (congrArg (fun r : R Unit => r.bind fun _ T' => compE O false T T') (comp_run f hw h hl)).trans ?_
  show compE O false T _ = _
  unfold compE
  have e5 : (T ++ [Cell.lstU (us.filterMap f)])[T.length]? = some (.lstU (us.filterMap f)) := by simp
  simp only [e5,hd,allD_map]
  simp [beqCs_r]
end
end Y
namespace Y
open PySem
theorem bitAnd_n (a b : Nat) : Builtin.bitAnd (a : Int) (b : Int) = ((a &&& b : Nat) : Int) := by
  unfold Builtin.bitAnd
  simp
theorem bitOr_n (a b : Nat) : Builtin.bitOr (a : Int) (b : Int) = ((a ||| b : Nat) : Int) := by
  unfold Builtin.bitOr Builtin.bitAnd Builtin.bitNot
  have h1 : ¬ (0 ≤ -(a : Int) - 1) := by omega
  have h2 : ¬ (0 ≤ -(b : Int) - 1) := by omega
  simp only [h1,h2,decide_false]
  have e1 : (-(-(a : Int) - 1) - 1).toNat = a := by omega
  have e2 : (-(-(b : Int) - 1) - 1).toNat = b := by omega
  rw [e1,e2]
  omega
def nI (r : Nat) : D := .int (r : Int)
def nD (l : List Nat) : List D := l.map nI
@[simp] theorem nD_len (l : List Nat) : (nD l).length = l.length := by unfold nD; simp
@[simp] theorem nD_get (l : List Nat) (i : Nat) : (nD l)[i]? = (l[i]?).map nI := by unfold nD; rw [List.getElem?_map]
theorem nD_app (a b : List Nat) : nD (a ++ b) = nD a ++ nD b := by unfold nD; simp
mutual
def noB : D → Bool
  | .none => true
  | .int _ => true
  | .str _ => true
  | .list xs => noBs xs
  | .tuple xs => noBs xs
  | .bool _ => false
  | .dict _ => false
def noBs : List D → Bool
  | [] => true
  | x :: xs => noB x && noBs xs
end
mutual
theorem eqv_iff : ∀ (a b : D),noB a = true → noB b = true → (PyData.eqv a b = true ↔ a = b)
  | .none,b,_,hb => by cases b <;> simp [PyData.eqv,noB] at *
  | .int i,b,_,hb => by cases b <;> simp [PyData.eqv,noB] at *
  | .str i,b,_,hb => by cases b <;> simp [PyData.eqv,noB] at *
  | .list xs,b,ha,hb => by
    cases b with
    | list ys =>
      rw [noB] at ha hb
      rw [PyData.eqv,eqvs_iff xs ys ha hb]
      simp
    | _ => simp [PyData.eqv,noB] at *
  | .tuple xs,b,ha,hb => by
    cases b with
    | tuple ys =>
      rw [noB] at ha hb
      rw [PyData.eqv,eqvs_iff xs ys ha hb]
      simp
    | _ => simp [PyData.eqv,noB] at *
  | .bool _,b,ha,hb => by simp [noB] at ha
  | .dict _,b,ha,hb => by simp [noB] at ha
theorem eqvs_iff : ∀ (a b : List D),noBs a = true → noBs b = true → (PyData.eqvAll a b = true ↔ a = b)
  | [],b,_,hb => by cases b <;> simp [PyData.eqvAll]
  | x :: xs,b,ha,hb => by
    cases b with
    | nil => simp [PyData.eqvAll]
    | cons y ys =>
      rw [noBs,Bool.and_eq_true] at ha hb
      rw [PyData.eqvAll,Bool.and_eq_true,eqv_iff x y ha.1 hb.1,eqvs_iff xs ys ha.2 hb.2]
      simp
end
theorem eqv_dec {a b : D} [Decidable (a = b)] (ha : noB a = true) (hb : noB b = true) : PyData.eqv a b = decide (a = b) := by
  rw [Bool.eq_iff_iff,eqv_iff a b ha hb]
  simp
def lay (k : Nat) (d : D) : Prop := d.canLay0 = true ∧ d.depth ≤ k
theorem lays {k : Nat} : ∀ {xs : List D},(∀ x ∈ xs,lay k x) → PyData.canLayAll0 xs = true ∧ PyData.depthAll xs ≤ k
  | [],_ => ⟨rfl,Nat.zero_le _⟩
  | x :: xs,h => by
    have h1 := h x List.mem_cons_self
    have h2 := lays (fun y hy => h y (List.mem_cons_of_mem _ hy))
    rw [PyData.canLayAll0,PyData.depthAll,h1.1,h2.1]
    exact ⟨rfl,Nat.max_le.mpr ⟨h1.2,h2.2⟩⟩
theorem lay_tuple {k : Nat} {xs : List D} (h : ∀ x ∈ xs,lay k x) : lay (k + 1) (.tuple xs) := by
  have := lays h
  refine ⟨?_, ?_⟩
  · rw [PyData.canLay0]; exact this.1
  · rw [PyData.depth]; omega
theorem lay_list {k : Nat} {xs : List D} (h : ∀ x ∈ xs,lay k x) : lay (k + 1) (.list xs) := by
  have := lays h
  refine ⟨?_, ?_⟩
  · rw [PyData.canLay0]; exact this.1
  · rw [PyData.depth]; omega
theorem lay_int (i : Int) : lay 0 (.int i) := ⟨rfl,Nat.le_refl _⟩
theorem lay.shp {k : Nat} {d : D} (h : lay k d) (hk : k ≤ 64) : shp d = true := by
  show (d.canLay0 && decide (d.depth ≤ 64)) = true
  rw [h.1,decide_eq_true (Nat.le_trans h.2 hk)]
  rfl
theorem cmp_eqD {O T : Cs} {a b : D} [Decidable (a = b)] (ha : shp a = true) (hb : shp b = true) (na : noB a = true) (nb : noB b = true) : cmpU O .eq (.d a) (.d b) T = some (decide (a = b)) := by
  show (if shp a && shp b then some (PyData.eqv a b) else none) = _
  rw [ha,hb,eqv_dec na nb]
  rfl
theorem cut_map {α β : Type} (f : α → β) (xs : List α) (l h : Option Int) : cut (xs.map f) l h = (cut xs l h).map f := by
  unfold cut
  simp [List.map_take,List.map_drop]
@[simp] theorem slcU_L (O T : Cs) (b : Bool) (ds : List D) (l h : Option Int) : slcU O b (.d (.list ds)) l h T = mkL O b ((cut ds l h).map .d) T := by
  show mkL O b (cut (ds.map U.d) l h) T = _
  rw [cut_map]
@[simp] theorem slcU_T (O T : Cs) (b : Bool) (ds : List D) (l h : Option Int) : slcU O b (.d (.tuple ds)) l h T = .ok (.d (.tuple (cut ds l h))) T := by
  show R.ok (mkT (cut (ds.map U.d) l h)) T = _
  rw [cut_map,mkT_map]
theorem cut_to {α : Type} (xs : List α) (k : Int) (h : 0 ≤ k) : cut xs none (some k) = xs.take k.toNat := by
  unfold cut HT.sIx
  simp
  rw [if_neg (by omega)]
  omega
@[simp] theorem getC_0 (O T : Cs) : getC O T O.length = T[0]? := by unfold getC; simp
@[simp] theorem getC_k (O T : Cs) (k : Nat) : getC O T (O.length + k) = T[k]? := by
  unfold getC
  rw [if_neg (by omega)]
  congr 1
  omega
@[simp] theorem setC_0 (O T : Cs) (c : Cell) : setC O T O.length c = if 0 < T.length then .ok (.d .none) (T.set 0 c) else .fail := by
  unfold setC
  simp
@[simp] theorem setC_k (O T : Cs) (k : Nat) (c : Cell) : setC O T (O.length + k) c = if k < T.length then .ok (.d .none) (T.set k c) else .fail := by
  unfold setC
  have : O.length + k - O.length = k := by omega
  simp [this]
@[simp] theorem mtU_append (O T : Cs) (l : Bool) (r : Nat) (v : U) : mtU O l .append (.ref r) [v] T = appU O r v T := rfl
@[simp] theorem tyU_ref (O T : Cs) (i : Nat) : tyU O T (.ref i) = match getC O T i with
    | some (.lst _) | some (.lstU _) => some .list
    | some (.dct _) | some (.dctU _) => some .dict
    | some (.dctS _) => some .dict
    | _ => none := rfl
@[simp] theorem appU_eq (O T : Cs) (r : Nat) (v : U) : appU O r v T = match getC O T r with
  | some (.lst ds) => if sizeOk ds.length then match v with
    | .d x => setC O T r (.lst (ds ++ [x]))
    | v => setC O T r (.lstU (ds.map .d ++ [v]))
    else .fail
  | some (.lstU us) => if sizeOk us.length then setC O T r (.lstU (us ++ [v])) else .fail
  | _ => .fail := rfl
@[simp] theorem tupleB_ref (O T : Cs) (i : Nat) : tupleB O T (.ref i) = match seqL O T (.ref i) with
  | some us => .ok (mkT us) T
  | none => .fail := by
  unfold tupleB
  cases seqL O T (.ref i) <;> rfl
theorem mul_ok {i j : Int} (h : -18446744073709551616 < j ∧ j < 18446744073709551616) : mulOk i j = true := by
  unfold mulOk
  simp [h.1,h.2]
theorem mul_okL {i j : Int} (h : -18446744073709551616 < i ∧ i < 18446744073709551616) : mulOk i j = true := by
  unfold mulOk
  simp [h.1,h.2]
theorem atI_nat {α : Type} (xs : List α) (i : Int) (h : 0 ≤ i) (h2 : i < xs.length) : L2.atI xs i = xs[i.toNat]? := by
  unfold L2.atI L2.ixN
  simp [h,h2]
end Y
namespace Y
open PySem
section
variable {C : Cn} {O T : Cs} {ρ : Rho} {elt t a b : CE} {g : Tg} {it : IT} {own : List Nat} {us : List U} {w : Option Nat} {tt : Cs}
end
@[simp] theorem biU_stp (O T : Cs) (l : Bool) (lo : Option Int) (k : Int) (us : List U) : biU O l (.stp lo k) us T = one us (stpB O l lo k T) := rfl
@[simp] theorem asgT_lp (O T : Cs) (ts : Tgs) (u : U) (ρ : Rho) : asgT O T (.lp ts) u ρ = match seqL O T u with
    | some us => asgTs O T ts us ρ
    | none => none := by rw [asgT] <;> rfl
end Y
namespace Y
open PySem
theorem p2 {x : Nat} (h : x < 6) : 0 < ((2 ^ x : Nat) : Int) ∧ ((2 ^ x : Nat) : Int) < 1000000000000000000000000000000000000000000000000000000000000 := by
  have : x = 0 ∨ x = 1 ∨ x = 2 ∨ x = 3 ∨ x = 4 ∨ x = 5 := by omega
  rcases this with rfl | rfl | rfl | rfl | rfl | rfl <;> decide
section
variable {G : Pg} {jl jw : Nat}
theorem rng1_ok {C : Cn} {O T : Cs} {ρ : Rho} {a : CE} {z : Int} {n : Nat} (h : den C O ρ a T = .ok (.d (.int z)) T) (h0 : rngOk 0 z = true) (hn : z.toNat = n) : denI C O ρ (.rng1 a) T = .ok ⟨rngU 0 n 1,none,T⟩ T := by
  rw [denI_rng1,h]
  simp [h0,hn]
end
end Y
namespace Y
open PySem
def pickB : CB := (.cons (.asg (.nm 3) (.ix (.lst false (.cons (.c (.int 48271)) (.cons (.c (.int 69621)) (.cons (.c (.int 39373)) (.cons (.c (.int 16807)) (.cons (.c (.int 40692)) (.cons (.c (.int 52774)) (.cons (.c (.int 33614)) .nil)))))))) (.bin false .mod (.v 1) (.c (.int 7))))) (.cons (.asg (.nm 4) (.bin false .add (.bin false .add (.bin false .mul (.bin false .mod (.v 0) (.c (.int 2147483647))) (.v 3)) (.bin false .mul (.c (.int 7919)) (.v 1))) (.c (.int 13)))) (.cons (.ret (.bin false .mod (.bin false .mod (.bin false .mul (.v 4) (.bin false .add (.bin false .mod (.v 4) (.c (.int 104729))) (.c (.int 1)))) (.ix (.lst false (.cons (.c (.int 2147483629)) (.cons (.c (.int 2147483587)) (.cons (.c (.int 2147483579)) .nil)))) (.bin false .mod (.v 1) (.c (.int 3))))) (.v 2))) .nil)))
def tableB (jp : Nat) : CB := (.cons (.asg (.nm 4) (.lst true .nil)) (.cons (.for_ (.nm 5) (.rng1 (.v 2)) (.cons (.asg (.nm 6) (.call false jp (.cons (.v 0) (.cons (.bin false .add (.v 1) (.bin false .mul (.c (.int 2)) (.v 5))) (.cons (.bin false .shl (.c (.int 1)) (.v 3)) .nil))) [])) (.cons (.ite (.cmp .gt (.call false jp (.cons (.v 0) (.cons (.bin false .add (.v 1) (.c (.int 19))) (.cons (.c (.int 3)) .nil))) []) (.c (.int 0))) (.cons (.asg (.nm 6) (.bin false .band (.v 6) (.call false jp (.cons (.v 0) (.cons (.bin false .add (.bin false .add (.v 1) (.bin false .mul (.c (.int 2)) (.v 5))) (.c (.int 1))) (.cons (.bin false .shl (.c (.int 1)) (.v 3)) .nil))) []))) .nil) .nil) (.cons (.ite (.cmp .gt (.call false jp (.cons (.v 0) (.cons (.bin false .add (.v 1) (.c (.int 20))) (.cons (.c (.int 3)) .nil))) []) (.c (.int 0))) (.cons (.asg (.nm 6) (.bin false .bor (.v 6) (.bin false .shl (.c (.int 1)) (.bin false .mod (.v 5) (.v 3))))) .nil) .nil) (.cons (.ex (.mt false .append (.v 4) (.cons (.v 6) .nil))) .nil))))) (.cons (.ret (.bi false .tuple (.cons (.v 4) .nil))) .nil)))
def edgeB (jp jt : Nat) : CB := (.cons (.asg (.tp (.cons (.nm 3) (.cons (.nm 4) .nil))) (.ix (.v 0) (.v 1))) (.cons (.asg (.nm 5) (.lst false (.cons (.bin false .add (.c (.int 1)) (.bin false .mod (.v 2) (.bin false .pow (.c (.int 10)) (.c (.int 18))))) (.cons (.bin false .add (.c (.int 1)) (.call false jp (.cons (.v 2) (.cons (.c (.int 2)) (.cons (.c (.int 9)) .nil))) [])) (.cons (.bin false .sub (.bin false .pow (.c (.int 10)) (.c (.int 18))) (.call false jp (.cons (.v 2) (.cons (.c (.int 8)) (.cons (.c (.int 2)) .nil))) [])) .nil))))) (.cons (.asg (.nm 6) (.ix (.v 5) (.call false jp (.cons (.v 2) (.cons (.c (.int 3)) (.cons (.c (.int 3)) .nil))) []))) (.cons (.asg (.nm 7) (.tup (.cons (.call false jp (.cons (.v 2) (.cons (.c (.int 4)) (.cons (.v 3) .nil))) []) (.cons (.call false jp (.cons (.v 2) (.cons (.c (.int 5)) (.cons (.v 3) .nil))) []) (.cons (.v 6) .nil))))) (.cons (.ite (.cmp .lt (.call false jp (.cons (.v 2) (.cons (.c (.int 6)) (.cons (.c (.int 5)) .nil))) []) (.c (.int 3))) (.cons (.ret (.bin false .add (.bin false .add (.tup (.cons (.c (.str "step")) .nil)) (.v 7)) (.tup (.cons (.call false jt (.cons (.v 2) (.cons (.c (.int 30)) (.cons (.v 4) (.cons (.v 4) .nil)))) []) .nil)))) .nil) .nil) (.cons (.asg (.nm 8) (.call false jp (.cons (.v 2) (.cons (.c (.int 7)) (.cons (.bi false .len (.cons (.v 0) .nil)) .nil))) [])) (.cons (.asg (.nm 9) (.call false jt (.cons (.v 2) (.cons (.c (.int 60)) (.cons (.v 4) (.cons (.ix (.ix (.v 0) (.v 8)) (.c (.int 1))) .nil)))) [])) (.cons (.asg (.nm 10) (.call false jt (.cons (.v 2) (.cons (.c (.int 90)) (.cons (.ix (.ix (.v 0) (.v 8)) (.c (.int 1))) (.cons (.v 4) .nil)))) [])) (.cons (.ret (.bin false .add (.bin false .add (.tup (.cons (.c (.str "call")) .nil)) (.v 7)) (.tup (.cons (.v 8) (.cons (.v 9) (.cons (.v 10) (.cons (.call false jt (.cons (.v 2) (.cons (.c (.int 120)) (.cons (.v 4) (.cons (.v 4) .nil)))) []) .nil))))))) .nil)))))))))
def chartB (jp je : Nat) : CB := (.cons (.asg (.nm 2) (.ix (.lst false (.cons (.tup (.cons (.c (.int 3)) (.cons (.c (.int 4)) (.cons (.c (.int 4)) .nil)))) (.cons (.tup (.cons (.c (.int 6)) (.cons (.c (.int 10)) (.cons (.c (.int 6)) .nil)))) .nil))) (.bi false .int (.cons (.cmp .eq (.call false jp (.cons (.v 1) (.cons (.c (.int 0)) (.cons (.c (.int 6)) .nil))) []) (.c (.int 1))) .nil)))) (.cons (.asg (.nm 3) (.lst true .nil)) (.cons (.for_ (.nm 4) (.rng1 (.bin false .add (.c (.int 1)) (.call false jp (.cons (.v 1) (.cons (.c (.int 1)) (.cons (.ix (.v 2) (.c (.int 0))) .nil))) []))) (.cons (.ex (.mt false .append (.v 3) (.cons (.tup (.cons (.bin false .add (.c (.int 1)) (.call false jp (.cons (.v 1) (.cons (.bin false .add (.c (.int 10)) (.bin false .mul (.c (.int 2)) (.v 4))) (.cons (.ix (.v 2) (.c (.int 1))) .nil))) [])) (.cons (.bin false .add (.c (.int 1)) (.call false jp (.cons (.v 1) (.cons (.bin false .add (.c (.int 11)) (.bin false .mul (.c (.int 2)) (.v 4))) (.cons (.ix (.v 2) (.c (.int 2))) .nil))) [])) .nil))) .nil))) .nil)) (.cons (.asg (.nm 5) (.comp true (.lst true .nil) (.nm 8) (.lst (.v 3)) (.c (.bool true)) [8])) (.cons (.for_ (.tp (.cons (.nm 6) (.cons (.nm 7) .nil))) (.enumL (.slc false (.v 0) .skip (.c (.int 24)))) (.cons (.asg (.nm 4) (.call false jp (.cons (.v 7) (.cons (.c (.int 1)) (.cons (.bi false .len (.cons (.v 3) .nil)) .nil))) [])) (.cons (.ex (.mt false .append (.ix (.v 5) (.v 4)) (.cons (.call false je (.cons (.v 3) (.cons (.v 4) (.cons (.bin false .add (.v 7) (.bin false .mul (.c (.int 31)) (.v 6))) .nil))) []) .nil))) .nil))) (.cons (.ret (.comp false (.tup (.cons (.ix (.ix (.v 3) (.v 4)) (.c (.int 0))) (.cons (.ix (.ix (.v 3) (.v 4)) (.c (.int 1))) (.cons (.frz (.ix (.v 5) (.v 4))) .nil)))) (.nm 4) (.rng1 (.bi false .len (.cons (.v 3) .nil))) (.c (.bool true)) [4])) .nil))))))
theorem atI_mem {α : Type} (xs : List α) (i : Int) (h : 0 ≤ i) (h2 : i < xs.length) : ∃ x,L2.atI xs i = some x ∧ x ∈ xs := by
  rw [atI_nat xs i h h2]
  have : i.toNat < xs.length := by omega
  exact ⟨xs[i.toNat],List.getElem?_eq_getElem this,List.getElem_mem _⟩
def PickOk (C : Cn) (jp : Nat) : Prop := ∀ (O T : Cs) (c k m : Int),0 < m → ∃ r : Int,0 ≤ r ∧ r < m ∧ callP C O jp [.d (.int c),.d (.int k),.d (.int m)] T = .ok (.d (.int r)) T
theorem pick_run {G : Pg} {jp : Nat} (hG : G.defs jp = some ⟨3,5,pickB⟩) (n : Nat) : PickOk (cn G (n + 1)) jp := by
  intro O T c k many hm
  obtain ⟨x,hx,mx⟩ := atI_mem ([.int 48271,.int 69621,.int 39373,.int 16807,.int 40692,.int 52774,.int 33614] : List D) (k % 7) (by omega) (by simp; omega)
  obtain ⟨y,hy,my⟩ := atI_mem ([.int 2147483629,.int 2147483587,.int 2147483579] : List D) (k % 3) (by omega) (by simp; omega)
  obtain ⟨b,rfl⟩ : ∃ b,x = .int b := by
    simp only [List.mem_cons,List.not_mem_nil,or_false] at mx
    rcases mx with rfl | rfl | rfl | rfl | rfl | rfl | rfl <;> exact ⟨_,rfl⟩
  obtain ⟨d,rfl,hd⟩ : ∃ d,y = .int d ∧ 0 < d := by
    simp only [List.mem_cons,List.not_mem_nil,or_false] at my
    rcases my with rfl | rfl | rfl <;> exact ⟨_,rfl,by decide⟩
  refine ⟨((c % 2147483647 * b + 7919 * k + 13) * ((c % 2147483647 * b + 7919 * k + 13) % 104729 + 1) % d % many),Int.emod_nonneg _ (by omega),Int.emod_lt_of_pos _ hm,callP_r O T (T' := []) ?_⟩
  refine Gv.eq (run_wp hG rfl ?_)
  have m1 : mulOk (c % 2147483647) b = true := mul_okL (by omega)
  have m2 : mulOk 7919 k = true := mul_okL (by omega)
  have m3 : mulOk (c % 2147483647 * b + 7919 * k + 13) ((c % 2147483647 * b + 7919 * k + 13) % 104729 + 1) = true := mul_ok (by omega)
  simp [pickB,hx,hy,m1,m2,m3,hd,hm]
theorem snocN (l : List Nat) (r : Int) (h : 0 ≤ r) : nD l ++ [.int r] = nD (l ++ [r.toNat]) := by
  rw [nD_app]
  simp [nD,nI,Int.toNat_of_nonneg h]
theorem band_b {a b m : Int} (ha : 0 ≤ a) (ha2 : a < m) (hb : 0 ≤ b) : 0 ≤ Builtin.bitAnd a b ∧ Builtin.bitAnd a b < m := by
  obtain ⟨x,rfl⟩ := Int.eq_ofNat_of_zero_le ha
  obtain ⟨y,rfl⟩ := Int.eq_ofNat_of_zero_le hb
  rw [bitAnd_n]
  have : x &&& y ≤ x := Nat.and_le_left
  omega
theorem bor_b {a b : Int} {t : Nat} (ha : 0 ≤ a) (ha2 : a < 2 ^ t) (hb : 0 ≤ b) (hb2 : b < 2 ^ t) : 0 ≤ Builtin.bitOr a b ∧ Builtin.bitOr a b < 2 ^ t := by
  obtain ⟨x,rfl⟩ := Int.eq_ofNat_of_zero_le ha
  obtain ⟨y,rfl⟩ := Int.eq_ofNat_of_zero_le hb
  rw [bitOr_n]
  have e : ((2 : Int) ^ t) = ((2 ^ t : Nat) : Int) := by simp
  rw [e] at ha2 hb2 ⊢
  have : x ||| y < 2 ^ t := Nat.or_lt_two_pow (by omega) (by omega)
  omega
theorem pow_b {a : Nat} {t : Nat} (h : a < t) : (0 : Int) ≤ 2 ^ a ∧ (2 : Int) ^ a < 2 ^ t := by
  have e : ∀ n : Nat,((2 : Int) ^ n) = ((2 ^ n : Nat) : Int) := fun n => by simp
  rw [e a,e t]
  have : 2 ^ a < 2 ^ t := Nat.pow_lt_pow_right (by decide) h
  exact ⟨Int.natCast_nonneg _,Int.ofNat_lt.mpr this⟩
def TbIn (tb : List Nat) (many to : Int) : Prop := tb.length = many.toNat ∧ ∀ r ∈ tb,r < 2 ^ to.toNat
def TableOk (C : Cn) (jt : Nat) : Prop := ∀ (O T : Cs) (c k nn to : Int),0 ≤ nn → nn ≤ 6 → 1 ≤ to → to ≤ 6 → ∃ tb : List Nat,TbIn tb nn to ∧ callP C O jt [.d (.int c),.d (.int k),.d (.int nn),.d (.int to)] T = .ok (.d (.tuple (nD tb))) T
theorem table_run {G : Pg} {jp jt : Nat} (hG : G.defs jt = some ⟨4,7,tableB jp⟩) (n : Nat) (hp : PickOk (cn G n) jp) : TableOk (cn G (n + 1)) jt := by
  intro O T c k nn to n0 n6 t1 t6
  suffices hg : Gv (Y.run G (n + 1) (O ++ T) jt [.d (.int c),.d (.int k),.d (.int nn),.d (.int to)] []) fun u T' => ∃ tb : List Nat,TbIn tb nn to ∧ u = .d (.tuple (nD tb)) by
    obtain ⟨u,T',e,tb,htb,rfl⟩ := hg.ex
    exact ⟨tb,htb,callP_r O T e⟩
  refine run_wp hG rfl ?_
  generalize O ++ T = O
  generalize cn G n = C at hp
  have hro : rngOk 0 nn = true := by simp [rngOk]; omega
  simp only [tableB]
  simp
  refine wp_for ⟨rngU 0 nn.toNat 1,none,[.lst []]⟩ [.lst []] (fun i ρ T => ∃ (rows : List Nat) (x y : Option U),T = [.lst (nD rows)] ∧ rows.length = i ∧ (∀ r ∈ rows,r < 2 ^ to.toNat) ∧ ρ = [some (.d (.int c)),some (.d (.int k)),some (.d (.int nn)),some (.d (.int to)),some (.ref O.length),x,y]) ?_ ?_ (by simp) ?_ ?_
  · simp [hro]
  · exact ⟨[],none,none,rfl,rfl,by simp,rfl⟩
  · rintro i u hu ρ T ⟨rows,x,y,rfl,hrl,hrb,rfl⟩
    obtain ⟨hi,rfl⟩ := rngU_get hu
    obtain ⟨iI,hiI⟩ : ∃ iI : Int,iI = (i : Int) := ⟨_,rfl⟩
    have hw0 : (0 + ((i : Nat) : Int) * 1) = iI := by omega
    rw [hw0]
    refine ⟨_,rfl, ?_⟩
    have hlen : (nD rows).length ≤ 1000000 := by simp [nD,nI]; omega
    have hsn : ∀ v : Int,0 ≤ v → v < 2 ^ to.toNat → ∃ rows' : List Nat,nD rows ++ [.int v] = nD rows' ∧ rows'.length = i + 1 ∧ ∀ r ∈ rows',r < 2 ^ to.toNat := by
      intro v v0 v1
      refine ⟨rows ++ [v.toNat],snocN rows v v0,by simp [hrl],fun r hr => ?_⟩
      rw [List.mem_append] at hr
      rcases hr with hr | hr
      · exact hrb r hr
      · simp at hr
        subst hr
        have e : ((2 : Int) ^ to.toNat) = ((2 ^ to.toNat : Nat) : Int) := by simp
        rw [e] at v1
        omega
    have hi0 : 0 ≤ iI := by omega
    clear hu hrb hrl hw0
    generalize nD rows = R at hsn hlen
    have hM : (0 : Int) < 2 ^ to.toNat := Int.pow_pos (by decide)
    obtain ⟨r0,a0,a1,e0⟩ := hp O [.lst R] c (k + 2 * iI) (2 ^ to.toNat) hM
    obtain ⟨r1,b0,b1,e1⟩ := hp O [.lst R] c (k + 19) 3 (by decide)
    obtain ⟨r2,c0,c1,e2⟩ := hp O [.lst R] c (k + 2 * iI + 1) (2 ^ to.toNat) hM
    obtain ⟨r3,d0,d1,e3⟩ := hp O [.lst R] c (k + 20) 3 (by decide)
    have m1 : mulOk 2 iI = true := mul_okL (by omega)
    have hto : 0 ≤ to ∧ to ≤ 1000 := by omega
    have ht0 : 0 < to := by omega
    have hmod : 0 ≤ iI % to ∧ iI % to ≤ 1000 := ⟨Int.emod_nonneg _ (by omega),by have := Int.emod_lt_of_pos iI ht0; omega⟩
    have hpw := pow_b (a := (iI % to).toNat) (t := to.toNat) (by have := Int.emod_lt_of_pos iI ht0; omega)
    simp [m1,hto,ht0,hmod,e0,e1,e2,e3,hlen]
    have q1 := band_b a0 a1 c0
    refine ⟨fun _ => ⟨fun _ => ?_,fun _ => ?_⟩,fun _ => ⟨fun _ => ?_,fun _ => ?_⟩⟩
    · have := bor_b q1.1 q1.2 hpw.1 hpw.2
      exact hsn _ this.1 this.2
    · exact hsn _ q1.1 q1.2
    · have := bor_b a0 a1 hpw.1 hpw.2
      exact hsn _ this.1 this.2
    · exact hsn _ a0 a1
  · rintro ρ T ⟨rows,x,y,rfl,hrl,hrb,rfl⟩
    simp only [rngU_len] at hrl
    simp [seqL,mkT]
    exact ⟨rows,⟨hrl,hrb⟩,rfl⟩
inductive Ed where
  | st (p q c : Int) (t : List Nat)
  | ca (p q c g : Int) (a b t : List Nat)
def Ed.d : Ed → D
  | .st p q c t => .tuple [.str "step",.int p,.int q,.int c,.tuple (nD t)]
  | .ca p q c g a b t => .tuple [.str "call",.int p,.int q,.int c,.int g,.tuple (nD a),.tuple (nD b),.tuple (nD t)]
abbrev Sz := List (Int × Int)
def szD (s : Sz) : List D := s.map fun p => .tuple [.int p.1,.int p.2]
def SzOk (s : Sz) : Prop := (1 ≤ s.length ∧ s.length ≤ 6) ∧ ∀ p ∈ s,1 ≤ p.1 ∧ p.1 ≤ 10 ∧ 1 ≤ p.2 ∧ p.2 ≤ 6
def HeadOk (P p q c : Int) : Prop := 0 ≤ p ∧ p < P ∧ 0 ≤ q ∧ q < P ∧ 1 ≤ c ∧ c ≤ 1000000000000000000
def EdOk (s : Sz) (f : Nat) : Ed → Prop
  | .st p q c t => ∃ P n,s[f]? = some (P,n) ∧ HeadOk P p q c ∧ TbIn t n n
  | .ca p q c g a b t => ∃ P n Q m,s[f]? = some (P,n) ∧ 0 ≤ g ∧ g < s.length ∧ s[g.toNat]? = some (Q,m) ∧ HeadOk P p q c ∧ TbIn a n m ∧ TbIn b m n ∧ TbIn t n n
theorem sz_at {s : Sz} (h : SzOk s) {f : Int} (h0 : 0 ≤ f) (h1 : f < s.length) : ∃ P n : Int,s[f.toNat]? = some (P,n) ∧ (1 ≤ P ∧ P ≤ 10 ∧ 1 ≤ n ∧ n ≤ 6) ∧ L2.atI (szD s) f = some (.tuple [.int P,.int n]) := by
  have hlt : f.toNat < s.length := by omega
  refine ⟨s[f.toNat].1,s[f.toNat].2,List.getElem?_eq_getElem hlt,h.2 _ (List.getElem_mem _), ?_⟩
  rw [atI_nat _ _ h0 (by simpa [szD] using h1)]
  simp [szD,List.getElem?_eq_getElem hlt]
theorem ixU_at {O T : Cs} {r : Nat} {ds : List D} {i : Int} {x : D} (h : getC O T r = some (.lst ds)) (hx : L2.atI ds i = some x) : ixU O (.ref r) (.d (.int i)) T = some (.d x) := by
  unfold ixU
  simp only [h,hx]
  rfl
theorem ixU_atU {O T : Cs} {r : Nat} {us : List U} {i : Int} {x : U} (h : getC O T r = some (.lstU us)) (hx : L2.atI us i = some x) : ixU O (.ref r) (.d (.int i)) T = some x := by
  unfold ixU
  simp only [h,hx]
theorem lenB_ref {O T : Cs} {r : Nat} {ds : List D} (h : getC O T r = some (.lst ds)) : lenB O T (.ref r) = .ok (.d (.int ds.length)) T := by
  unfold lenB seqA
  simp [h]
theorem lenB_refU {O T : Cs} {r : Nat} {us : List U} (h : getC O T r = some (.lstU us)) : lenB O T (.ref r) = .ok (.d (.int us.length)) T := by
  unfold lenB seqA
  simp [h]
theorem getC_O (O T : Cs) (r : Nat) : getC (O ++ T) [] r = getC O T r := by
  rw [getC_eq,getC_eq,List.append_nil]
def EdgeOk (C : Cn) (je : Nat) : Prop := ∀ (O T : Cs) (r : Nat) (s : Sz) (f c : Int),SzOk s → getC O T r = some (.lst (szD s)) → 0 ≤ f → f < s.length → ∃ e : Ed,EdOk s f.toNat e ∧ callP C O je [.ref r,.d (.int f),.d (.int c)] T = .ok (.d e.d) T
theorem edge_run {G : Pg} {jp jt je : Nat} (hG : G.defs je = some ⟨3,11,edgeB jp jt⟩) (n : Nat) (hp : PickOk (cn G n) jp) (ht : TableOk (cn G n) jt) : EdgeOk (cn G (n + 1)) je := by
  intro O T r s f c hs hr f0 f1
  suffices hg : Gv (Y.run G (n + 1) (O ++ T) je [.ref r,.d (.int f),.d (.int c)] []) fun u T' => ∃ e : Ed,EdOk s f.toNat e ∧ u = .d e.d by
    obtain ⟨u,T',e,ed,h1,rfl⟩ := hg.ex
    exact ⟨ed,h1,callP_r O T e⟩
  refine run_wp hG rfl ?_
  rw [← getC_O] at hr
  generalize O ++ T = O at hr
  generalize cn G n = C at hp ht
  obtain ⟨P,m,hf,hb,hx⟩ := sz_at hs f0 f1
  obtain ⟨s1,s6⟩ := hs.1
  obtain ⟨r2,a20,a21,e2⟩ := hp O [] c 2 9 (by decide)
  obtain ⟨r8,a80,a81,e8⟩ := hp O [] c 8 2 (by decide)
  obtain ⟨r3,a30,a31,e3⟩ := hp O [] c 3 3 (by decide)
  obtain ⟨r4,a40,a41,e4⟩ := hp O [] c 4 P (by omega)
  obtain ⟨r5,a50,a51,e5⟩ := hp O [] c 5 P (by omega)
  obtain ⟨r6,a60,a61,e6⟩ := hp O [] c 6 5 (by decide)
  obtain ⟨r7,a70,a71,e7⟩ := hp O [] c 7 s.length (by omega)
  obtain ⟨Q,k,hg,hbg,hxg⟩ := sz_at hs a70 a71
  obtain ⟨t1,b1,c1⟩ := ht O [] c 30 m m (by omega) (by omega) (by omega) (by omega)
  obtain ⟨t2,b2,c2⟩ := ht O [] c 60 m k (by omega) (by omega) (by omega) (by omega)
  obtain ⟨t3,b3,c3⟩ := ht O [] c 90 k m (by omega) (by omega) (by omega) (by omega)
  obtain ⟨t4,b4,c4⟩ := ht O [] c 120 m m (by omega) (by omega) (by omega) (by omega)
  obtain ⟨v,hv,mv⟩ := atI_mem ([.int (1 + c % 1000000000000000000),.int (1 + r2),.int (1000000000000000000 - r8)] : List D) r3 a30 (by simpa using a31)
  obtain ⟨w,rfl,hw⟩ : ∃ w,v = .int w ∧ 1 ≤ w ∧ w ≤ 1000000000000000000 := by
    simp only [List.mem_cons,List.not_mem_nil,or_false] at mv
    rcases mv with rfl | rfl | rfl
    · exact ⟨_,rfl,by omega⟩
    · exact ⟨_,rfl,by omega⟩
    · exact ⟨_,rfl,by omega⟩
  have hln : (szD s).length = s.length := by simp [szD]
  have h18 : ((10 : Int) ^ (18 : Int).toNat) = 1000000000000000000 := by decide
  have hst : EdOk s f.toNat (.st r4 r5 w t1) := ⟨P,m,hf,⟨a40,a41,a50,a51,hw.1,hw.2⟩,b1⟩
  have hca : EdOk s f.toNat (.ca r4 r5 w r7 t2 t3 t4) := ⟨P,m,Q,k,hf,a70,a71,hg,⟨a40,a41,a50,a51,hw.1,hw.2⟩,b2,b3,b4⟩
  have ix0 : ixU O (.ref r) (.d (.int f)) [] = some (.d (.tuple [.int P,.int m])) := by
    exact ixU_at hr hx
  have ix7 : ixU O (.ref r) (.d (.int r7)) [] = some (.d (.tuple [.int Q,.int k])) := by
    exact ixU_at hr hxg
  have len0 : lenB O [] (.ref r) = .ok (.d (.int s.length)) [] := by
    rw [lenB_ref hr,hln]
  have at1 : ∀ a b : Int,L2.atI [PyData.int a,PyData.int b] 1 = some (.int b) := fun a b => rfl
  clear hs hr hx hxg hf hg hln mv
  generalize s.length = ln at *
  simp only [edgeB]
  simp [ix0,ix7,len0,e2,e3,e4,e5,e6,e7,e8,c1,c2,c3,c4,hv,at1]
  exact ⟨fun _ => ⟨_,hst,rfl⟩,fun _ => ⟨_,hca,rfl⟩⟩
theorem compC_st {f : U → Cs → R (Option U)} {ok : Cs → Bool} {n : Nat} : ∀ (us : List U) (St : Nat → Cs),(∀ i u,us[i]? = some u → ok (St i) = true ∧ ∃ oy T',f u (St i) = .ok oy T' ∧ putC n oy T' = .ok () (St (i + 1))) → ok (St us.length) = true → compC f ok n us (St 0) = .ok () (St us.length)
  | [],St,_,he => by
    have he : ok (St 0) = true := he
    rw [compC,if_pos he]
    rfl
  | u :: us,St,h,he => by
    obtain ⟨h1,oy,T',h2,h3⟩ := h 0 u rfl
    rw [compC,if_pos h1,h2,R.bind_ok,h3,R.bind_ok]
    exact compC_st us (fun i => St (i + 1)) (fun i v hv => h (i + 1) v hv) he
theorem comp_st {C : Cn} {O T T0 : Cs} {ρ : Rho} {elt t : CE} {g : Tg} {it : IT} {own : List Nat} {us : List U} {w : Option Nat} {tt : Cs} {live : Bool} (St : Nat → Cs) (he : denI C O ρ it T = .ok ⟨us,w,tt⟩ T0) (h0 : St 0 = T0 ++ [.lstU []])
    (h : ∀ i u,us[i]? = some u → sameW O tt (St i) w = true ∧ ∃ ρ1,asgT O (St i) g u (wipeR ρ own) = some ρ1 ∧ den C O ρ1 t (St i) = .ok (.d (.bool true)) (St i) ∧ ∃ y T',den C O ρ1 elt (St i) = .ok y T' ∧ putC T0.length (some y) T' = .ok () (St (i + 1)))
    (hE : sameW O tt (St us.length) w = true) : den C O ρ (.comp live elt g it t own) T = compE O live T0 (St us.length) := by
  rw [den,he,R.bind_ok]
  have k := compC_st (f := fun u T => match asgT O T g u (wipeR ρ own) with
        | some ρ' => (den C O ρ' t T).bind fun b T => brB (asB b) ((den C O ρ' elt T).bind fun y T => .ok (some y) T) (.ok none T)
        | none => .fail) (ok := fun T' => sameW O tt T' w) (n := T0.length) us St (fun i u hu => by
    obtain ⟨h1,ρ1,e1,e2,y,T',e3,e4⟩ := h i u hu
    refine ⟨h1,some y,T', ?_,e4⟩
    simp only [e1,e2,e3,R.bind_ok,asB_bool,brB_t]) hE
  rw [h0] at k
  exact (congrArg (fun r : R Unit => r.bind fun _ T' => compE O live T0 T') k).trans rfl
theorem putC_at {n : Nat} {y : U} {T : Cs} {acc : List U} (h : T[n]? = some (.lstU acc)) (hl : acc.length ≤ 1000000) : putC n (some y) T = .ok () (T.set n (.lstU (acc ++ [y]))) := by
  unfold putC
  simp [h,hl]
abbrev Ch := List (Int × Int × List Ed)
def chSz (ch : Ch) : Sz := ch.map fun x => (x.1,x.2.1)
def chD (ch : Ch) : List D := ch.map fun x => .tuple [.int x.1,.int x.2.1,.list (x.2.2.map Ed.d)]
def manyE (ch : Ch) : Nat := (ch.map fun x => x.2.2.length).sum
def ChOk (ch : Ch) : Prop := SzOk (chSz ch) ∧ (∀ f x,ch[f]? = some x → ∀ e ∈ x.2.2,EdOk (chSz ch) f e) ∧ manyE ch ≤ 24
def lstE (es : List Ed) : Cell := .lst (es.map Ed.d)
def refs (n m : Nat) : List U := (List.range m).map fun j => U.ref (n + (2 + j))
theorem refs_len (n m : Nat) : (refs n m).length = m := by simp [refs]
theorem refs_S (n m : Nat) : refs n (m + 1) = refs n m ++ [.ref (n + (2 + m))] := by
  simp [refs,List.range_succ]
theorem refs_at (n m : Nat) (f : Int) (h0 : 0 ≤ f) (h1 : f < m) : L2.atI (refs n m) f = some (.ref (n + (2 + f.toNat))) := by
  rw [atI_nat _ _ h0 (by rw [refs_len]; exact h1)]
  have : f.toNat < m := by omega
  simp [refs,this]
theorem refs_cell {n m : Nat} (h : 0 < m) : cellOf (refs n m) = .lstU (refs n m) := by
  unfold cellOf
  cases m with
  | zero => omega
  | succ m =>
    have : allD (refs n (m + 1)) = none := by
      unfold refs
      rw [List.range_succ_eq_map]
      rfl
    rw [this]
section
variable {C : Cn} {O : Cs} {jp je : Nat}
theorem edges0 (s : Sz) (hs : SzOk s) (ρ : Rho) (h3 : ρ[3]? = some (some (.ref O.length))) (h8 : 8 < ρ.length) : den C O ρ (.comp true (.lst true .nil) (.nm 8) (.lst (.v 3)) (.c (.bool true)) [8]) [.lst (szD s)] = .ok (.ref (O.length + 1)) (.lst (szD s) :: .lstU (refs O.length s.length) :: List.replicate s.length (lstE [])) := by
  have hln : (szD s).length = s.length := by simp [szD]
  have hsq : seqL O [.lst (szD s)] (.ref O.length) = some ((szD s).map .d) := by simp
  have k := comp_st (C := C) (O := O) (T := [.lst (szD s)]) (T0 := [.lst (szD s)]) (ρ := ρ) (elt := .lst true .nil) (t := .c (.bool true)) (g := .nm 8) (it := .lst (.v 3)) (own := [8]) (us := (szD s).map .d) (w := some O.length) (tt := [.lst (szD s)]) (live := true)
    (fun i => .lst (szD s) :: .lstU (refs O.length i) :: List.replicate i (lstE [])) (by
      rw [denI,den_v,h3]
      simp only [R.bind_ok,hsq]
      rfl) (by rfl) (by
      intro i u hu
      have hi : i < s.length := by
        have := (List.getElem?_eq_some_iff.mp hu).1
        simpa [hln] using this
      refine ⟨sameW_refl (c := .lst (szD s)) (by simp) (by simp) (.inl ⟨_,rfl⟩),_,rfl,by simp,.ref (O.length + (2 + i)),.lst (szD s) :: .lstU (refs O.length i) :: (List.replicate i (lstE []) ++ [lstE []]), ?_, ?_⟩
      · simp [lstE]
        omega
      · rw [putC_at (acc := refs O.length i) rfl (by rw [refs_len]; have := hs.1.2; omega)]
        simp only [List.length_cons,List.length_nil,List.set_cons_succ,List.set_cons_zero,refs_S,List.replicate_succ']) (sameW_refl (c := .lst (szD s)) (by simp) (by simp) (.inl ⟨_,rfl⟩))
  rw [k]
  simp only [List.length_map,hln]
  have e5 : (Cell.lst (szD s) :: .lstU (refs O.length s.length) :: List.replicate s.length (lstE []))[[Cell.lst (szD s)].length]? = some (.lstU (refs O.length s.length)) := rfl
  unfold compE
  simp only [e5]
  rw [if_pos trivial,refs_cell (by have := hs.1.1; omega)]
  rfl
theorem end_elt (ρ : Rho) (T T' : Cs) (i : Int) (j : Nat) (sz : List D) (rf : List U) (P n : Int) (es : List D) (h3 : ρ[3]? = some (some (.ref O.length))) (h5 : ρ[5]? = some (some (.ref (O.length + 1)))) (h4 : 4 < ρ.length)
    (g0 : getC O T O.length = some (.lst sz)) (hx : L2.atI sz i = some (.tuple [.int P,.int n])) (g1 : getC O T (O.length + 1) = some (.lstU rf)) (hre : L2.atI rf i = some (.ref (O.length + j))) (gj : getC O T (O.length + j) = some (.lst es)) (hlt : j < T.length) (hS : T.set j .dead = T') :
    den C O ((wipeR ρ [4]).set 4 (some (.d (.int i)))) (.tup (.cons (.ix (.ix (.v 3) (.v 4)) (.c (.int 0))) (.cons (.ix (.ix (.v 3) (.v 4)) (.c (.int 1))) (.cons (.frz (.ix (.v 5) (.v 4))) .nil)))) T = .ok (.d (.tuple [.int P,.int n,.list es])) T' := by
  have a0 : ixU O (.ref O.length) (.d (.int i)) T = some (.d (.tuple [.int P,.int n])) := ixU_at g0 hx
  have a1 : ixU O (.ref (O.length + 1)) (.d (.int i)) T = some (.ref (O.length + j)) := ixU_atU g1 hre
  have b0 : L2.atI [PyData.int P,PyData.int n] 0 = some (.int P) := rfl
  have b1 : L2.atI [PyData.int P,PyData.int n] 1 = some (.int n) := rfl
  have hf : frzU O (.ref (O.length + j)) T = .ok (.d (.list es)) T' := by
    unfold frzU
    simp [gj,hlt,hS]
  have q3 : ((wipeR ρ [4]).set 4 (some (U.d (.int i))))[3]? = some (some (.ref O.length)) := by simp [wipeR,h3]
  have q5 : ((wipeR ρ [4]).set 4 (some (U.d (.int i))))[5]? = some (some (.ref (O.length + 1))) := by simp [wipeR,h5]
  have q4 : ((wipeR ρ [4]).set 4 (some (U.d (.int i))))[4]? = some (some (.d (.int i))) := by simp [wipeR,h4]
  generalize (wipeR ρ [4]).set 4 (some (U.d (.int i))) = ρ' at q3 q4 q5 ⊢
  simp [q3,q4,q5,a0,a1,b0,b1,hf]
theorem chart_end (s : Sz) (hs : SzOk s) (ess : List (List Ed)) (hl : ess.length = s.length) (ρ : Rho) (h3 : ρ[3]? = some (some (.ref O.length))) (h5 : ρ[5]? = some (some (.ref (O.length + 1)))) (h4 : 4 < ρ.length) :
    ∃ T',den C O ρ (.comp false (.tup (.cons (.ix (.ix (.v 3) (.v 4)) (.c (.int 0))) (.cons (.ix (.ix (.v 3) (.v 4)) (.c (.int 1))) (.cons (.frz (.ix (.v 5) (.v 4))) .nil)))) (.nm 4) (.rng1 (.bi false .len (.cons (.v 3) .nil))) (.c (.bool true)) [4]) (.lst (szD s) :: .lstU (refs O.length s.length) :: ess.map lstE) = .ok (.d (.list (chD ((s.zip ess).map fun p => (p.1.1,p.1.2,p.2))))) T' := by
  have hln : (szD s).length = s.length := by simp [szD]
  obtain ⟨s1,s6⟩ := hs.1
  have len0 : ∀ T,lenB O (.lst (szD s) :: T) (.ref O.length) = .ok (.d (.int s.length)) (.lst (szD s) :: T) := by
    intro T
    rw [lenB_ref (ds := szD s) (by simp),hln]
  have hro : rngOk 0 (s.length : Int) = true := by simp [rngOk]; omega
  have hcl : (chD ((s.zip ess).map fun p => (p.1.1,p.1.2,p.2))).length = s.length := by simp [chD,hl]
  generalize hR : chD ((s.zip ess).map fun p => (p.1.1,p.1.2,p.2)) = Rs at hcl
  have k := comp_st (C := C) (O := O) (T := .lst (szD s) :: .lstU (refs O.length s.length) :: ess.map lstE) (T0 := .lst (szD s) :: .lstU (refs O.length s.length) :: ess.map lstE) (ρ := ρ) (elt := .tup (.cons (.ix (.ix (.v 3) (.v 4)) (.c (.int 0))) (.cons (.ix (.ix (.v 3) (.v 4)) (.c (.int 1))) (.cons (.frz (.ix (.v 5) (.v 4))) .nil)))) (t := .c (.bool true)) (g := .nm 4) (it := .rng1 (.bi false .len (.cons (.v 3) .nil))) (own := [4]) (us := rngU 0 s.length 1) (w := none) (tt := .lst (szD s) :: .lstU (refs O.length s.length) :: ess.map lstE) (live := false)
    (fun i => .lst (szD s) :: .lstU (refs O.length s.length) :: ((List.replicate i .dead ++ (ess.drop i).map lstE) ++ [.lstU ((Rs.take i).map .d)])) (by
      refine rng1_ok (z := (s.length : Int)) ?_ hro (by simp)
      rw [den_bi,denA_cons,den_v,h3]
      simp only [R.bind_ok,denA_nil,biU_len,one_one,len0]) (by simp) (by
      intro i u hu
      obtain ⟨hi,rfl⟩ := rngU_get hu
      have hu0 : (0 + ((i : Nat) : Int) * 1) = ((i : Nat) : Int) := by omega
      rw [hu0]
      obtain ⟨P,n,hf,hb,hx⟩ := sz_at hs (f := (i : Int)) (by omega) (by omega)
      have hie : i < ess.length := by omega
      have hes : ess[i]? = some ess[i] := List.getElem?_eq_getElem hie
      have hd : ess.drop i = ess[i] :: ess.drop (i + 1) := List.drop_eq_getElem_cons hie
      have hri : Rs[i]? = some (.tuple [.int P,.int n,.list ((ess[i]).map Ed.d)]) := by
        rw [← hR]
        have hf' : s[i]? = some (P,n) := by simpa using hf
        have hz : (s.zip ess)[i]? = some ((P,n),ess[i]) := List.getElem?_zip_eq_some.mpr ⟨hf',hes⟩
        simp [chD,hz]
      generalize hE : ess[i] = es at *
      refine ⟨rfl,_,rfl,by simp,.d (.tuple [.int P,.int n,.list (es.map Ed.d)]),.lst (szD s) :: .lstU (refs O.length s.length) :: ((List.replicate (i + 1) .dead ++ (ess.drop (i + 1)).map lstE) ++ [.lstU ((Rs.take i).map .d)]), ?_, ?_⟩
      · have hre := refs_at O.length s.length (i : Int) (by omega) (by omega)
        simp only [Int.toNat_natCast] at hre
        have hT : (.lst (szD s) :: .lstU (refs O.length s.length) :: ((List.replicate i .dead ++ (ess.drop i).map lstE) ++ [.lstU ((Rs.take i).map .d)]) : Cs)[2 + i]? = some (.lst (es.map Ed.d)) := by
          rw [hd,Nat.add_comm 2 i]
          simp only [List.getElem?_cons_succ,List.append_assoc]
          rw [List.getElem?_append_right (by simp)]
          simp [lstE]
        have hS : (.lst (szD s) :: .lstU (refs O.length s.length) :: ((List.replicate i .dead ++ (ess.drop i).map lstE) ++ [.lstU ((Rs.take i).map .d)]) : Cs).set (2 + i) .dead = .lst (szD s) :: .lstU (refs O.length s.length) :: ((List.replicate (i + 1) .dead ++ (ess.drop (i + 1)).map lstE) ++ [.lstU ((Rs.take i).map .d)]) := by
          rw [hd,Nat.add_comm 2 i]
          simp only [List.set_cons_succ,List.append_assoc]
          rw [List.set_append_right (h := by simp)]
          simp [List.replicate_succ',lstE]
        have hlt : 2 + i < (.lst (szD s) :: .lstU (refs O.length s.length) :: ((List.replicate i .dead ++ (ess.drop i).map lstE) ++ [.lstU ((Rs.take i).map .d)]) : Cs).length := (List.getElem?_eq_some_iff.mp hT).1
        have h0 : (.lst (szD s) :: .lstU (refs O.length s.length) :: ((List.replicate i .dead ++ (ess.drop i).map lstE) ++ [.lstU ((Rs.take i).map .d)]) : Cs)[0]? = some (.lst (szD s)) := rfl
        have h1 : (.lst (szD s) :: .lstU (refs O.length s.length) :: ((List.replicate i .dead ++ (ess.drop i).map lstE) ++ [.lstU ((Rs.take i).map .d)]) : Cs)[1]? = some (.lstU (refs O.length s.length)) := rfl
        generalize (.lst (szD s) :: .lstU (refs O.length s.length) :: ((List.replicate i .dead ++ (ess.drop i).map lstE) ++ [.lstU ((Rs.take i).map .d)]) : Cs) = TT at hT hS hlt h0 h1 ⊢
        exact end_elt ρ TT _ (i : Int) (2 + i) _ _ P n (es.map Ed.d) h3 h5 h4 (by rw [getC_0,h0]) hx (by rw [getC_k,h1]) hre (by rw [getC_k,hT]) hlt hS
      · have hTl : (Cell.lst (szD s) :: .lstU (refs O.length s.length) :: ess.map lstE).length = 2 + s.length := by simp [hl]; omega
        rw [hTl]
        have hln2 : (List.replicate (i + 1) Cell.dead ++ (ess.drop (i + 1)).map lstE).length = s.length := by simp; omega
        rw [putC_at (acc := (Rs.take i).map .d) (by
          rw [Nat.add_comm 2 s.length]
          simp only [List.getElem?_cons_succ]
          rw [List.getElem?_append_right (by omega),hln2]
          simp) (by simp; omega)]
        rw [Nat.add_comm 2 s.length]
        simp only [List.set_cons_succ]
        rw [List.set_append_right (h := by omega),hln2,List.take_add_one,hri]
        simp) rfl
  rw [k]
  have hul : (rngU 0 s.length 1).length = s.length := rngU_len
  rw [hul]
  have hdr : ess.drop s.length = [] := List.drop_eq_nil_of_le (by omega)
  have hTl : (Cell.lst (szD s) :: .lstU (refs O.length s.length) :: ess.map lstE).length = 2 + s.length := by simp [hl]; omega
  have hta : Rs.take s.length = Rs := List.take_of_length_le (by omega)
  rw [hdr,hta]
  have e5 : (Cell.lst (szD s) :: .lstU (refs O.length s.length) :: ((List.replicate s.length .dead ++ ([] : List (List Ed)).map lstE) ++ [.lstU (Rs.map .d)]))[(Cell.lst (szD s) :: .lstU (refs O.length s.length) :: ess.map lstE).length]? = some (.lstU (Rs.map .d)) := by
    rw [hTl,Nat.add_comm 2 s.length]
    simp only [List.getElem?_cons_succ]
    rw [List.getElem?_append_right (by simp)]
    simp
  unfold compE
  simp only [e5,allD_map]
  rw [if_neg (by decide)]
  split
  · exact ⟨_,rfl⟩
  · exact ⟨_,rfl⟩
end
theorem lay.mono {k m : Nat} {d : D} (h : lay k d) (hk : k ≤ m) : lay m d := ⟨h.1,Nat.le_trans h.2 hk⟩
theorem lay_step : lay 0 (.str "step") := ⟨by decide +kernel,Nat.le_refl _⟩
theorem lay_call : lay 0 (.str "call") := ⟨by decide +kernel,Nat.le_refl _⟩
theorem noBs_map {α : Type} (f : α → D) (h : ∀ x,noB (f x) = true) : ∀ l : List α,noBs (l.map f) = true
  | [] => rfl
  | a :: l => by
    show (noB (f a) && noBs (l.map f)) = true
    rw [h a,noBs_map f h l]
    rfl
theorem cmp_same {O T : Cs} {x y : U} {d : D} (hx : toD O T 3 x = some d) (hy : toD O T 3 y = some d) (hs : shp d = true) (hn : noB d = true) : cmpU O .eq x y T = some true ∧ cmpU O .ne x y T = some false := by
  have e : PyData.eqv d d = true := (eqv_iff d d hn hn).mpr rfl
  constructor
  · unfold cmpU
    simp only [hx,hy]
    simp [hs,e]
  · unfold cmpU
    simp only [hx,hy]
    simp [hs,e]
theorem step_same {O T : Cs} : cmpU O .eq (.d (.str "step")) (.d (.str "step")) T = some true := (cmp_same (O := O) (T := T) (x := .d (.str "step")) (y := .d (.str "step")) rfl rfl (lay_step.shp (by decide)) rfl).1
theorem call_step {O T : Cs} : cmpU O .eq (.d (.str "call")) (.d (.str "step")) T = some false := by
  show (if shp (.str "call") && shp (.str "step") then some (PyData.eqv (.str "call") (.str "step")) else none) = _
  rw [lay_call.shp (by decide),lay_step.shp (by decide)]
  decide +kernel
def chartE (jp je : Nat) : CB := (.cons (.for_ (.tp (.cons (.nm 6) (.cons (.nm 7) .nil))) (.enumL (.slc false (.v 0) .skip (.c (.int 24)))) (.cons (.asg (.nm 4) (.call false jp (.cons (.v 7) (.cons (.c (.int 1)) (.cons (.bi false .len (.cons (.v 3) .nil)) .nil))) [])) (.cons (.ex (.mt false .append (.ix (.v 5) (.v 4)) (.cons (.call false je (.cons (.v 3) (.cons (.v 4) (.cons (.bin false .add (.v 7) (.bin false .mul (.c (.int 31)) (.v 6))) .nil))) []) .nil))) .nil))) (.cons (.ret (.comp false (.tup (.cons (.ix (.ix (.v 3) (.v 4)) (.c (.int 0))) (.cons (.ix (.ix (.v 3) (.v 4)) (.c (.int 1))) (.cons (.frz (.ix (.v 5) (.v 4))) .nil)))) (.nm 4) (.rng1 (.bi false .len (.cons (.v 3) .nil))) (.c (.bool true)) [4])) .nil))
def chartC (jp je : Nat) : CB := (.cons (.asg (.nm 5) (.comp true (.lst true .nil) (.nm 8) (.lst (.v 3)) (.c (.bool true)) [8])) (chartE jp je))
theorem chartB_eq (jp je : Nat) : chartB jp je = (.cons (.asg (.nm 2) (.ix (.lst false (.cons (.tup (.cons (.c (.int 3)) (.cons (.c (.int 4)) (.cons (.c (.int 4)) .nil)))) (.cons (.tup (.cons (.c (.int 6)) (.cons (.c (.int 10)) (.cons (.c (.int 6)) .nil)))) .nil))) (.bi false .int (.cons (.cmp .eq (.call false jp (.cons (.v 1) (.cons (.c (.int 0)) (.cons (.c (.int 6)) .nil))) []) (.c (.int 1))) .nil)))) (.cons (.asg (.nm 3) (.lst true .nil)) (.cons (.for_ (.nm 4) (.rng1 (.bin false .add (.c (.int 1)) (.call false jp (.cons (.v 1) (.cons (.c (.int 1)) (.cons (.ix (.v 2) (.c (.int 0))) .nil))) []))) (.cons (.ex (.mt false .append (.v 3) (.cons (.tup (.cons (.bin false .add (.c (.int 1)) (.call false jp (.cons (.v 1) (.cons (.bin false .add (.c (.int 10)) (.bin false .mul (.c (.int 2)) (.v 4))) (.cons (.ix (.v 2) (.c (.int 1))) .nil))) [])) (.cons (.bin false .add (.c (.int 1)) (.call false jp (.cons (.v 1) (.cons (.bin false .add (.c (.int 11)) (.bin false .mul (.c (.int 2)) (.v 4))) (.cons (.ix (.v 2) (.c (.int 2))) .nil))) [])) .nil))) .nil))) .nil)) (chartC jp je)))) := rfl
theorem sum_set1 (e : Ed) : ∀ (l : List (List Ed)) (f : Nat) (es : List Ed),l[f]? = some es → ((l.set f (es ++ [e])).map List.length).sum = (l.map List.length).sum + 1
  | [],f,es,h => by simp at h
  | a :: l,0,es,h => by
    simp at h
    subst h
    simp
    omega
  | a :: l,f + 1,es,h => by
    have := sum_set1 e l f es (by simpa using h)
    rw [List.set_cons_succ,List.map_cons,List.map_cons,List.sum_cons,List.sum_cons,this]
    omega
theorem mem_sum : ∀ {l : List Nat} {x : Nat},x ∈ l → x ≤ l.sum
  | [],_,h => by cases h
  | a :: l,x,h => by
    rw [List.sum_cons]
    rcases List.mem_cons.mp h with rfl | h
    · omega
    · have := mem_sum h
      omega
theorem chart_of (s : Sz) (hs : SzOk s) (ess : List (List Ed)) (hl : ess.length = s.length) (hk : ∀ f es,ess[f]? = some es → ∀ e ∈ es,EdOk s f e) (hm : (ess.map List.length).sum ≤ 24) : ChOk ((s.zip ess).map fun p => (p.1.1,p.1.2,p.2)) := by
  have e1 : chSz ((s.zip ess).map fun p => (p.1.1,p.1.2,p.2)) = s := by
    unfold chSz
    rw [List.map_map]
    have : ((fun x : Int × Int × List Ed => (x.1,x.2.1)) ∘ fun p : (Int × Int) × List Ed => (p.1.1,p.1.2,p.2)) = Prod.fst := by
      funext p
      rfl
    rw [this,List.map_fst_zip (by omega)]
  have e2 : manyE ((s.zip ess).map fun p => (p.1.1,p.1.2,p.2)) = (ess.map List.length).sum := by
    unfold manyE
    rw [List.map_map]
    have : ((fun x : Int × Int × List Ed => x.2.2.length) ∘ fun p : (Int × Int) × List Ed => (p.1.1,p.1.2,p.2)) = List.length ∘ Prod.snd := by
      funext p
      rfl
    rw [this,← List.map_map,List.map_snd_zip (by omega)]
  refine ⟨by rw [e1]; exact hs,fun f x hx e he => ?_,by rw [e2]; exact hm⟩
  rw [e1]
  rw [List.getElem?_map,Option.map_eq_some_iff] at hx
  obtain ⟨p,hp,rfl⟩ := hx
  exact hk f p.2 (List.getElem?_zip_eq_some.mp hp).2 e he
section
variable {C : Cn} {O : Cs} {jp je : Nat}
abbrev ChartRt (u : U) (_ : Cs) : Prop := ∃ ch,ChOk ch ∧ u = .d (.list (chD ch))
theorem chart_app (hp : PickOk C jp) (he : EdgeOk C je) (s : Sz) (hs : SzOk s) (ess : List (List Ed)) (hl : ess.length = s.length) (hk : ∀ f es,ess[f]? = some es → ∀ e ∈ es,EdOk s f e) (hm : (ess.map List.length).sum ≤ 1000) (ua : U) (w1 w2 x4 x8 : Option U) (i v : Int) (nx bk ct : Rho → Cs → Prop) (rt : U → Cs → Prop)
    (hN : ∀ ess' : List (List Ed),ess'.length = s.length → (∀ f es,ess'[f]? = some es → ∀ e ∈ es,EdOk s f e) → (ess'.map List.length).sum = (ess.map List.length).sum + 1 → ∀ x4,nx [some ua,w1,w2,some (.ref O.length),x4,some (.ref (O.length + 1)),some (.d (.int i)),some (.d (.int v)),x8] (.lst (szD s) :: .lstU (refs O.length s.length) :: ess'.map lstE)) :
    Wp (denB C O (.cons (.asg (.nm 4) (.call false jp (.cons (.v 7) (.cons (.c (.int 1)) (.cons (.bi false .len (.cons (.v 3) .nil)) .nil))) [])) (.cons (.ex (.mt false .append (.ix (.v 5) (.v 4)) (.cons (.call false je (.cons (.v 3) (.cons (.v 4) (.cons (.bin false .add (.v 7) (.bin false .mul (.c (.int 31)) (.v 6))) .nil))) []) .nil))) .nil)) [some ua,w1,w2,some (.ref O.length),x4,some (.ref (O.length + 1)),some (.d (.int i)),some (.d (.int v)),x8] (.lst (szD s) :: .lstU (refs O.length s.length) :: ess.map lstE)) nx bk ct rt := by
  have hln : (szD s).length = s.length := by simp [szD]
  obtain ⟨s1,s6⟩ := hs.1
  have g0 : getC O (.lst (szD s) :: .lstU (refs O.length s.length) :: ess.map lstE) O.length = some (.lst (szD s)) := by simp
  have g1 : getC O (.lst (szD s) :: .lstU (refs O.length s.length) :: ess.map lstE) (O.length + 1) = some (.lstU (refs O.length s.length)) := by simp
  have hlen := lenB_ref g0
  rw [hln] at hlen
  obtain ⟨f,f0,f1,ef⟩ := hp O (.lst (szD s) :: .lstU (refs O.length s.length) :: ess.map lstE) v 1 (s.length : Int) (by omega)
  have hre := refs_at O.length s.length f f0 f1
  have hfl : f.toNat < ess.length := by omega
  have hes : ess[f.toNat]? = some ess[f.toNat] := List.getElem?_eq_getElem hfl
  generalize ess[f.toNat] = es at hes
  have hT : (.lst (szD s) :: .lstU (refs O.length s.length) :: ess.map lstE : Cs)[2 + f.toNat]? = some (.lst (es.map Ed.d)) := by
    rw [Nat.add_comm]
    simp [hes,lstE]
  have hlt := (List.getElem?_eq_some_iff.mp hT).1
  have g2 : getC O (.lst (szD s) :: .lstU (refs O.length s.length) :: ess.map lstE) (O.length + (2 + f.toNat)) = some (.lst (es.map Ed.d)) := by
    rw [getC_k,hT]
  have hxr := ixU_atU g1 hre
  obtain ⟨e,hok,ee⟩ := he O (.lst (szD s) :: .lstU (refs O.length s.length) :: ess.map lstE) O.length s f (v + 31 * i) hs g0 f0 f1
  have hesl : es.length ≤ 1000 := by
    have h1 : es.length ∈ ess.map List.length := List.mem_map.mpr ⟨es,List.mem_of_getElem? hes,rfl⟩
    have := mem_sum h1
    omega
  have hS : (.lst (szD s) :: .lstU (refs O.length s.length) :: ess.map lstE : Cs).set (2 + f.toNat) (.lst (es.map Ed.d ++ [e.d])) = .lst (szD s) :: .lstU (refs O.length s.length) :: (ess.set f.toNat (es ++ [e])).map lstE := by
    rw [Nat.add_comm 2]
    simp [List.map_set,lstE]
  have hap : mtU O false .append (.ref (O.length + (2 + f.toNat))) [.d e.d] (.lst (szD s) :: .lstU (refs O.length s.length) :: ess.map lstE) = .ok (.d .none) (.lst (szD s) :: .lstU (refs O.length s.length) :: (ess.set f.toNat (es ++ [e])).map lstE) := by
    rw [mtU_append]
    unfold appU
    simp only [g2]
    rw [if_pos (by simp [Y.sizeOk]; omega),setC_k,if_pos hlt,hS]
  have hty : tyU O (.lst (szD s) :: .lstU (refs O.length s.length) :: ess.map lstE) (.ref (O.length + (2 + f.toNat))) = some .list := by
    rw [tyU_ref,g2]
  have hfin := hN (ess.set f.toNat (es ++ [e])) (by simp [hl]) (fun f' es' h' e' he' => by
    rw [List.getElem?_set] at h'
    by_cases hff : f.toNat = f'
    · rw [if_pos hff,if_pos hfl] at h'
      cases h'
      rw [List.mem_append] at he'
      rcases he' with he' | he'
      · exact hff ▸ hk _ _ hes e' he'
      · simp at he'
        subst he'
        exact hff ▸ hok
    · rw [if_neg hff] at h'
      exact hk f' es' h' e' he') (sum_set1 e ess f.toNat es hes) (some (.d (.int f)))
  clear hN hS hT g0 g1 g2 hre hlt
  have hseti : ∀ T,den C O [some ua,w1,w2,some (.ref O.length),some (.d (.int f)),some (.ref (O.length + 1)),some (.d (.int i)),some (.d (.int v)),x8] (.ix (.v 5) (.v 4)) T = R.ofO T (ixU O (.ref (O.length + 1)) (.d (.int f)) T) := fun T => by simp
  generalize (.lst (szD s) :: .lstU (refs O.length s.length) :: (ess.set f.toNat (es ++ [e])).map lstE : Cs) = T2 at hfin hap
  generalize (.lst (szD s) :: .lstU (refs O.length s.length) :: ess.map lstE : Cs) = T1 at hap hxr hty ef ee hlen ⊢
  generalize O.length + (2 + f.toNat) = kk at hap hxr hty
  generalize (s.length : Int) = ln at hlen ef
  generalize O.length + 1 = k1 at hxr hfin ⊢
  have m1 : mulOk 31 i = true := mul_okL (by decide)
  simp [hlen,ef,hxr,hty,m1,ee,hap]
  exact hfin
theorem chart_fin (s : Sz) (hs : SzOk s) (ess : List (List Ed)) (hl : ess.length = s.length) (hk : ∀ f es,ess[f]? = some es → ∀ e ∈ es,EdOk s f e) (hm : (ess.map List.length).sum ≤ 24) (ρ : Rho) (h3 : ρ[3]? = some (some (.ref O.length))) (h5 : ρ[5]? = some (some (.ref (O.length + 1)))) (h4 : 4 < ρ.length) (nx bk ct : Rho → Cs → Prop) :
    Wp (denB C O (.cons (.ret (.comp false (.tup (.cons (.ix (.ix (.v 3) (.v 4)) (.c (.int 0))) (.cons (.ix (.ix (.v 3) (.v 4)) (.c (.int 1))) (.cons (.frz (.ix (.v 5) (.v 4))) .nil)))) (.nm 4) (.rng1 (.bi false .len (.cons (.v 3) .nil))) (.c (.bool true)) [4])) .nil) ρ (.lst (szD s) :: .lstU (refs O.length s.length) :: ess.map lstE)) nx bk ct ChartRt := by
  obtain ⟨T',e⟩ := chart_end (C := C) s hs ess hl ρ h3 h5 h4
  rw [wp_cons,denS_ret,e]
  exact ⟨_,chart_of s hs ess hl hk hm,rfl⟩
theorem chart_rest (hp : PickOk C jp) (he : EdgeOk C je) (s : Sz) (hs : SzOk s) (ua : U) (cells : List Int) (hsl : ∀ T,slcU O false ua none (some 24) T = .ok (.d (.list ((cells.take 24).map .int))) T) (w1 w2 x4 x6 x7 x8 : Option U) (x5 : Option U) (nx bk ct : Rho → Cs → Prop) :
    Wp (denB C O (chartC jp je) [some ua,w1,w2,some (.ref O.length),x4,x5,x6,x7,x8] [.lst (szD s)]) nx bk ct ChartRt := by
  unfold chartC
  have e0 := edges0 (C := C) (O := O) s hs [some ua,w1,w2,some (.ref O.length),x4,x5,x6,x7,x8] rfl (by simp)
  rw [wp_cons,wpS_asg,e0]
  simp only [F.of_ok,asgT_nm,List.set_cons_zero,List.set_cons_succ,wp_nx,Kc_eq]
  unfold chartE
  rw [wp_cons]
  refine wp_for ⟨((cells.take 24).map fun c => U.d (.int c)).zipIdx.map fun p => mkT [.d (.int (p.2 : Nat)),p.1],none,.lst (szD s) :: .lstU (refs O.length s.length) :: List.replicate s.length (lstE [])⟩ (.lst (szD s) :: .lstU (refs O.length s.length) :: List.replicate s.length (lstE [])) (fun i ρ T => ∃ (ess : List (List Ed)) (x4 x6 x7 : Option U),ess.length = s.length ∧ (∀ f es,ess[f]? = some es → ∀ e ∈ es,EdOk s f e) ∧ (ess.map List.length).sum = i ∧ T = .lst (szD s) :: .lstU (refs O.length s.length) :: ess.map lstE ∧ ρ = [some ua,w1,w2,some (.ref O.length),x4,some (.ref (O.length + 1)),x6,x7,x8]) ?_ ?_ (by simp) ?_ ?_
  · have hsl' := hsl (.lst (szD s) :: .lstU (refs O.length s.length) :: List.replicate s.length (lstE []))
    simp [hsl']
    rfl
  · refine ⟨List.replicate s.length [],x4,x6,x7,by simp,fun f es h e he => ?_,by simp,by simp,rfl⟩
    rw [List.getElem?_replicate] at h
    split at h
    · cases h
      cases he
    · cases h
  · rintro i u hu ρ T ⟨ess,x4,x6,x7,hl,hk,hsm,rfl,rfl⟩
    have hi : i < (cells.take 24).length := by
      have := (List.getElem?_eq_some_iff.mp hu).1
      simpa using this
    have hu' : ∃ v : Int,u = .d (.tuple [.int (i : Nat),.int v]) := by
      rw [List.getElem?_map,List.getElem?_zipIdx,List.getElem?_map,List.getElem?_eq_getElem hi] at hu
      simp at hu
      exact ⟨_,hu.symm⟩
    obtain ⟨v,rfl⟩ := hu'
    have hi24 : i < 24 := by
      have : (cells.take 24).length ≤ 24 := List.length_take_le _ _
      omega
    refine ⟨_,rfl, ?_⟩
    exact chart_app hp he s hs ess hl hk (by omega) ua w1 w2 x4 x8 (i : Int) v _ _ _ _ fun ess' h1 h2 h3 x4 => ⟨ess',x4,_,_,h1,h2,by rw [h3,hsm],rfl,rfl⟩
  · rintro ρ T ⟨ess,x4,x6,x7,hl,hk,hsm,rfl,rfl⟩
    refine chart_fin s hs ess hl hk ?_ _ rfl rfl (by simp) _ _ _
    rw [hsm]
    have : (cells.take 24).length ≤ 24 := List.length_take_le _ _
    simp only [List.length_map,List.length_zipIdx]
    exact this
end
@[simp] theorem intB_bool (T : Cs) (b : Bool) : intB T (.d (.bool b)) = .ok (.d (.int (if b then 1 else 0))) T := rfl
def ChartOk (C : Cn) (jc : Nat) : Prop := ∀ (O T : Cs) (cells : List Int) (way : Int),∃ ch,ChOk ch ∧ callP C O jc [.d (.list (cells.map .int)),.d (.int way)] T = .ok (.d (.list (chD ch))) T
theorem chart_run {G : Pg} {jp je jc : Nat} (hG : G.defs jc = some ⟨2,9,chartB jp je⟩) (n : Nat) (hp : PickOk (cn G n) jp) (he : EdgeOk (cn G n) je) : ChartOk (cn G (n + 1)) jc := by
  intro O T cells way
  suffices hg : Gv (Y.run G (n + 1) (O ++ T) jc [.d (.list (cells.map .int)),.d (.int way)] []) ChartRt by
    obtain ⟨u,T',e,ch,h1,rfl⟩ := hg.ex
    exact ⟨ch,h1,callP_r O T e⟩
  refine run_wp hG rfl ?_
  generalize O ++ T = O
  generalize cn G n = C at hp he ⊢
  have hsl : ∀ T,slcU O false (.d (.list (cells.map .int))) none (some 24) T = .ok (.d (.list ((cells.take 24).map .int))) T := by
    intro T
    rw [slcU_L,cut_to _ _ (by decide)]
    show mkL O false ((List.take 24 (cells.map PyData.int)).map U.d) T = _
    rw [← List.map_take]
    unfold mkL
    rw [if_neg (by decide),allD_map]
  have hrest := fun s hs => chart_rest hp he s hs (.d (.list (cells.map .int))) cells hsl
  rw [chartB_eq]
  obtain ⟨ua,hua⟩ : ∃ ua : U,ua = .d (.list (cells.map .int)) := ⟨_,rfl⟩
  rw [← hua] at hrest ⊢
  clear hsl
  obtain ⟨r0,a00,a01,e0⟩ := hp O [] way 0 6 (by decide)
  have hmost : ∃ a b c : Int,L2.atI [PyData.tuple [.int 3,.int 4,.int 4],.tuple [.int 6,.int 10,.int 6]] (if r0 = 1 then 1 else 0) = some (.tuple [.int a,.int b,.int c]) ∧ (1 ≤ a ∧ a ≤ 6) ∧ (1 ≤ b ∧ b ≤ 10) ∧ 1 ≤ c ∧ c ≤ 6 := by
    by_cases h : r0 = 1
    · rw [if_pos h]
      exact ⟨6,10,6,rfl,by omega,by omega,by omega⟩
    · rw [if_neg h]
      exact ⟨3,4,4,rfl,by omega,by omega,by omega⟩
  obtain ⟨a,b,c,hm,ha,hb,hc⟩ := hmost
  have t0 : L2.atI [PyData.int a,.int b,.int c] 0 = some (.int a) := rfl
  have t1 : L2.atI [PyData.int a,.int b,.int c] 1 = some (.int b) := rfl
  have t2 : L2.atI [PyData.int a,.int b,.int c] 2 = some (.int c) := rfl
  obtain ⟨r1,a10,a11,e1⟩ := hp O [.lst []] way 1 a (by omega)
  generalize hK : chartC jp je = K at hrest ⊢
  simp only [List.map_cons,List.map_nil,List.length_cons,List.length_nil,List.replicate,List.cons_append,List.nil_append,wp_cons,wpS_asg]
  simp [e0,hm]
  have hro : rngOk 0 (1 + r1) = true := by simp [rngOk]; omega
  refine wp_for ⟨rngU 0 (1 + r1).toNat 1,none,[.lst []]⟩ [.lst []] (fun i ρ T => ∃ (sz : Sz) (x4 : Option U),sz.length = i ∧ (∀ p ∈ sz,1 ≤ p.1 ∧ p.1 ≤ 10 ∧ 1 ≤ p.2 ∧ p.2 ≤ 6) ∧ T = [.lst (szD sz)] ∧ ρ = [some ua,some (.d (.int way)),some (.d (.tuple [.int a,.int b,.int c])),some (.ref O.length),x4,none,none,none,none]) ?_ ?_ (by simp) ?_ ?_
  · refine rng1_ok (z := 1 + r1) ?_ hro rfl
    simp [t0,e1]
  · exact ⟨[],none,rfl,by simp,rfl,rfl⟩
  · rintro i u hu ρ T ⟨sz,x4,hl,hsz,rfl,rfl⟩
    obtain ⟨hi,rfl⟩ := rngU_get hu
    obtain ⟨iI,hiI⟩ : ∃ iI : Int,iI = (i : Int) := ⟨_,rfl⟩
    have hw0 : (0 + ((i : Nat) : Int) * 1) = iI := by omega
    rw [hw0]
    refine ⟨_,rfl, ?_⟩
    obtain ⟨p,p0,p1,ep⟩ := hp O [.lst (szD sz)] way (10 + 2 * iI) b (by omega)
    obtain ⟨q,q0,q1,eq⟩ := hp O [.lst (szD sz)] way (11 + 2 * iI) c (by omega)
    have m1 : mulOk 2 iI = true := mul_okL (by decide)
    have hlen : (szD sz).length ≤ 1000000 := by simp [szD]; omega
    have hsn : ∃ sz' : Sz,szD sz ++ [.tuple [.int (1 + p),.int (1 + q)]] = szD sz' ∧ sz'.length = i + 1 ∧ ∀ p ∈ sz',1 ≤ p.1 ∧ p.1 ≤ 10 ∧ 1 ≤ p.2 ∧ p.2 ≤ 6 := by
      refine ⟨sz ++ [(1 + p,1 + q)],by simp [szD],by simp [hl],fun x hx => ?_⟩
      rw [List.mem_append] at hx
      rcases hx with hx | hx
      · exact hsz x hx
      · simp at hx
        subst hx
        exact ⟨by omega,by omega,by omega,by omega⟩
    obtain ⟨sz',h1,h2,h3⟩ := hsn
    generalize szD sz = R at h1 ep eq hlen
    simp [t1,t2,m1,ep,eq,hlen,h1]
    exact ⟨sz',h2,fun a b hab => h3 (a,b) hab,rfl⟩
  · rintro ρ T ⟨sz,x4,hl,hsz,rfl,rfl⟩
    have hl : sz.length = (1 + r1).toNat := by rw [hl]; exact rngU_len
    exact hrest sz ⟨⟨by omega,by omega⟩,hsz⟩ _ _ _ _ _ _ _ _ _ _
end Y
namespace Y
open PySem
def Chg (O : Cs) (r : Nat) (T T' : Cs) : Prop := ∃ (s : Int) (g : Cs),T' = T.set (r - O.length) (.lst [.int s]) ++ g
structure StAt (O T : Cs) (r : Nat) : Prop where
  lo : O.length ≤ r
  at_ : ∃ s : Int,T[r - O.length]? = some (.lst [.int s])
theorem StAt.get {O T : Cs} {r : Nat} (h : StAt O T r) : ∃ s : Int,getC O T r = some (.lst [.int s]) ∧ r - O.length < T.length := by
  obtain ⟨s,hs⟩ := h.at_
  refine ⟨s, ?_,(List.getElem?_eq_some_iff.mp hs).1⟩
  have : r = O.length + (r - O.length) := by have := h.lo; omega
  rw [this,getC_k]
  exact hs
theorem Chg.trans {O T T' T'' : Cs} {r : Nat} (h : StAt O T r) (c : Chg O r T T') (c' : Chg O r T' T'') : Chg O r T T'' := by
  obtain ⟨s,hs⟩ := h.at_
  have hlt := (List.getElem?_eq_some_iff.mp hs).1
  obtain ⟨s',g,rfl⟩ := c
  obtain ⟨s'',g',rfl⟩ := c'
  refine ⟨s'',g ++ g', ?_⟩
  rw [List.set_append_left (h := by simpa using hlt),List.set_set,List.append_assoc]
theorem Chg.get {O T T' : Cs} {r i : Nat} {c : Cell} (h : Chg O r T T') (hr : O.length ≤ r) (hi : i ≠ r) (hc : getC O T i = some c) : getC O T' i = some c := by
  obtain ⟨s,g,rfl⟩ := h
  rw [getC_eq] at hc ⊢
  by_cases hO : i < O.length
  · rw [List.getElem?_append_left hO] at hc ⊢
    exact hc
  · rw [List.getElem?_append_right (by omega)] at hc ⊢
    have hlt := (List.getElem?_eq_some_iff.mp hc).1
    rw [List.getElem?_append_left (by simpa using hlt),List.getElem?_set_ne (by omega)]
    exact hc
theorem StAt.app {O T : Cs} {r : Nat} (h : StAt O T r) (g : Cs) : StAt O (T ++ g) r := by
  obtain ⟨s,hs⟩ := h.at_
  exact ⟨h.lo,s,by rw [List.getElem?_append_left (List.getElem?_eq_some_iff.mp hs).1]; exact hs⟩
theorem Chg.app {O T : Cs} {r : Nat} (h : StAt O T r) (g : Cs) : Chg O r T (T ++ g) := by
  obtain ⟨s,hs⟩ := h.at_
  refine ⟨s,g, ?_⟩
  congr 1
  apply List.ext_getElem?
  intro i
  by_cases hi : r - O.length = i
  · subst hi
    rw [hs,List.getElem?_set_self (List.getElem?_eq_some_iff.mp hs).1]
  · rw [List.getElem?_set_ne hi]
@[simp] theorem biU_min2 (O T : Cs) (l : Bool) (a b : Int) : biU O l .min2 [.d (.int a),.d (.int b)] T = .ok (.d (.int (if b < a then b else a))) T := rfl
section
variable {C : Cn} {jn jc jt : Nat}
end
section
variable {C : Cn} {O : Cs}
end
section
variable {C : Cn} {O : Cs} {jc je : Nat}
end
end Y
namespace Y
open PySem
def Ed.ds : Ed → List D
  | .st p q c t => [.str "step",.int p,.int q,.int c,.tuple (nD t)]
  | .ca p q c g a b t => [.str "call",.int p,.int q,.int c,.int g,.tuple (nD a),.tuple (nD b),.tuple (nD t)]
theorem d_ds (e : Ed) : e.d = .tuple (Ed.ds e) := by cases e <;> rfl
theorem fn_at {ch : Ch} {f : Int} {x : Int × Int × List Ed} (h0 : 0 ≤ f) (h : ch[f.toNat]? = some x) : L2.atI (chD ch) f = some (.tuple [.int x.1,.int x.2.1,.list (x.2.2.map Ed.d)]) := by
  have hi := (List.getElem?_eq_some_iff.mp h).1
  rw [atI_nat _ _ h0 (by simp [chD]; omega)]
  simp [chD,h]
theorem es_at {es : List Ed} {k : Int} {e : Ed} (h0 : 0 ≤ k) (h : es[k.toNat]? = some e) : L2.atI (es.map Ed.d) k = some (.tuple (Ed.ds e)) := by
  have hi := (List.getElem?_eq_some_iff.mp h).1
  rw [atI_nat _ _ h0 (by simp; omega)]
  simp [h,d_ds]
theorem str_eq {O T : Cs} {a b : Str} (ha : lay 0 (.str a)) (hb : lay 0 (.str b)) : cmpU O .eq (.d (.str a)) (.d (.str b)) T = some (decide (a = b)) := by
  haveI : Decidable ((PyData.str a) = .str b) := decidable_of_iff (a = b) ⟨fun h => by rw [h],fun h => by injection h⟩
  rw [cmp_eqD (ha.shp (by decide)) (hb.shp (by decide)) rfl rfl]
  simp
theorem list_ne {O T : Cs} (ds : List D) (h : shp (.list ds) = true) : cmpU O .ne (.d (.list ds)) (.d (.list [])) T = some (!ds.isEmpty) := by
  have h2 : shp (.list []) = true := rfl
  have h3 : PyData.eqv (.list ds) (.list []) = ds.isEmpty := by
    cases ds <;> rfl
  show (if shp (.list ds) && shp (.list []) then some (!PyData.eqv (.list ds) (.list [])) else none) = _
  rw [h,h2,h3]
  rfl
theorem a5 (a b c d e : D) : L2.atI [a,b,c,d,e] 0 = some a ∧ L2.atI [a,b,c,d,e] 1 = some b ∧ L2.atI [a,b,c,d,e] 2 = some c ∧ L2.atI [a,b,c,d,e] 3 = some d ∧ L2.atI [a,b,c,d,e] 4 = some e := ⟨rfl,rfl,rfl,rfl,rfl⟩
def esD (x : Int × Int × List Ed) : List D := x.2.2.map Ed.d
def fnD (x : Int × Int × List Ed) : D := .tuple [.int x.1,.int x.2.1,.list (esD x)]
def ItemR (O T : Cs) (x : Int × Int × List Ed) (w : U) : Prop := w = .d (fnD x) ∨ ∃ j,w = .tup [.d (.int x.1),.d (.int x.2.1),.ref j] ∧ getC O T j = some (.lst (esD x))
def ChRep (O T : Cs) (u : U) (ch : Ch) : Prop := u = .d (.list (chD ch)) ∨ ∃ k rows,u = .ref k ∧ getC O T k = some (.lstU rows) ∧ rows.length = ch.length ∧ ∀ (f : Nat) x,ch[f]? = some x → ∃ j,rows[f]? = some (.tup [.d (.int x.1),.d (.int x.2.1),.ref j]) ∧ getC O T j = some (.lst (esD x))
def Ext (O T O' T' : Cs) : Prop := ∀ i c,getC O T i = some c → getC O' T' i = some c
theorem ItemR.mono {O T O' T' : Cs} {x : Int × Int × List Ed} {w : U} (h : ItemR O T x w) (hm : Ext O T O' T') : ItemR O' T' x w := by
  rcases h with rfl | ⟨j,rfl,hj⟩
  · exact .inl rfl
  · exact .inr ⟨j,rfl,hm _ _ hj⟩
theorem ChRep.mono {O T O' T' : Cs} {ch : Ch} {u : U} (h : ChRep O T u ch) (hm : Ext O T O' T') : ChRep O' T' u ch := by
  rcases h with rfl | ⟨k,rows,rfl,hk,hl,hr⟩
  · exact .inl rfl
  · refine .inr ⟨k,rows,rfl,hm _ _ hk,hl,fun f x hx => ?_⟩
    obtain ⟨j,h1,h2⟩ := hr f x hx
    exact ⟨j,h1,hm _ _ h2⟩
theorem Ext.trans {O T O' T' O'' T'' : Cs} (h : Ext O T O' T') (h' : Ext O' T' O'' T'') : Ext O T O'' T'' := fun i c e => h' i c (h i c e)
theorem ChRep.seq {O T : Cs} {ch : Ch} {u : U} (h : ChRep O T u ch) : ∃ us,seqL O T u = some us ∧ us.length = ch.length ∧ (∀ (f : Nat) x,ch[f]? = some x → ∃ w,us[f]? = some w ∧ ItemR O T x w) ∧ ∀ T',Ext O T O T' → sameW O T T' (watch u) = true := by
  rcases h with rfl | ⟨k,rows,rfl,hk,hl,hr⟩
  · refine ⟨(chD ch).map .d,rfl,by simp [chD],fun f x hx => ⟨.d (fnD x), ?_,.inl rfl⟩,fun T' _ => rfl⟩
    simp [chD,hx,fnD,esD]
  · refine ⟨rows,by simp [hk],hl,fun f x hx => ?_,fun T' hm => sameW_refl hk (hm _ _ hk) (.inr (.inl ⟨_,rfl⟩))⟩
    obtain ⟨j,h1,h2⟩ := hr f x hx
    exact ⟨_,h1,.inr ⟨j,rfl,h2⟩⟩
theorem ItemR.at {O T : Cs} {x : Int × Int × List Ed} {w : U} (h : ItemR O T x w) : ixU O w (.d (.int 0)) T = some (.d (.int x.1)) ∧ ixU O w (.d (.int 1)) T = some (.d (.int x.2.1)) ∧ (∃ v,seqT w = some [.d (.int x.1),.d (.int x.2.1),v] ∧ ixU O w (.d (.int 2)) T = some v ∧ seqL O T v = some ((esD x).map .d) ∧ (v = .d (.list (esD x)) ∨ ∃ j,v = .ref j ∧ getC O T j = some (.lst (esD x)))) ∧ ∀ f : Int,seqT (mkT [.d (.int f),w]) = some [.d (.int f),w] := by
  rcases h with rfl | ⟨j,rfl,hj⟩
  · exact ⟨rfl,rfl,⟨.d (.list (esD x)),rfl,rfl,rfl,.inl rfl⟩,fun f => rfl⟩
  · exact ⟨rfl,rfl,⟨.ref j,rfl,rfl,by simp [hj],.inr ⟨j,rfl,hj⟩⟩,fun f => rfl⟩
theorem ChRep.len {O T : Cs} {ch : Ch} {u : U} (h : ChRep O T u ch) : lenB O T u = .ok (.d (.int ch.length)) T := by
  rcases h with rfl | ⟨k,rows,rfl,hk,hl,hr⟩
  · rw [lenB_L]
    simp [chD]
  · rw [lenB_refU hk,hl]
theorem ChRep.toD {O T : Cs} {ch : Ch} {u : U} (h : ChRep O T u ch) : Y.toD O T 3 u = some (.list (chD ch)) := by
  rcases h with rfl | ⟨k,rows,rfl,hk,hl,hr⟩
  · rfl
  · rw [toD_refS,hk]
    have : toDs O T 2 rows = some (chD ch) := by
      clear hk
      induction ch generalizing rows with
      | nil =>
        have : rows = [] := List.eq_nil_of_length_eq_zero hl
        subst this
        rfl
      | cons x ch ih =>
        cases rows with
        | nil => simp at hl
        | cons r rows =>
          obtain ⟨j,h1,h2⟩ := hr 0 x rfl
          simp only [List.getElem?_cons_zero,Option.some.injEq] at h1
          subst h1
          have hh := ih rows (by simpa using hl) (fun f y hy => hr (f + 1) y (by simpa using hy))
          have e : Y.toD O T 2 (.tup [.d (.int x.1),.d (.int x.2.1),.ref j]) = some (fnD x) := by
            rw [toD_tup,toDs_cons,toDs_cons,toDs_cons,toDs_nil,toD_refS,h2]
            rfl
          rw [toDs_cons,e,hh]
          rfl
    show (toDs O T 2 rows).map PyData.list = _
    rw [this]
    rfl
structure ChU (O T : Cs) (u : U) (ch : Ch) : Prop where
  len : lenB O T u = .ok (.d (.int ch.length)) T
  at_ : ∀ (f : Int) (x : Int × Int × List Ed),0 ≤ f → ch[f.toNat]? = some x → ∃ w es,ixU O u (.d (.int f)) T = some w ∧ ixU O w (.d (.int 0)) T = some (.d (.int x.1)) ∧ ixU O w (.d (.int 1)) T = some (.d (.int x.2.1)) ∧ ixU O w (.d (.int 2)) T = some es ∧ lenB O T es = .ok (.d (.int x.2.2.length)) T ∧ ∀ (n : Int) (e : Ed),0 ≤ n → x.2.2[n.toNat]? = some e → ixU O es (.d (.int n)) T = some (.d (.tuple (Ed.ds e)))
theorem ChRep.u {O T : Cs} {u : U} {ch : Ch} (h : ChRep O T u ch) : ChU O T u ch := by
  refine ⟨h.len,fun f x f0 hx => ?_⟩
  have hlt := (List.getElem?_eq_some_iff.mp hx).1
  rcases h with rfl | ⟨k,rows,rfl,hk,hl,hr⟩
  · refine ⟨.d (fnD x),.d (.list (esD x)), ?_,rfl,rfl,rfl, ?_,fun n e n0 he => ?_⟩
    · rw [ixU_L,fn_at f0 hx]
      rfl
    · rw [lenB_L]
      simp [esD]
    · rw [ixU_L]
      unfold esD
      rw [es_at n0 he]
      rfl
  · obtain ⟨j,h1,h2⟩ := hr _ x hx
    refine ⟨.tup [.d (.int x.1),.d (.int x.2.1),.ref j],.ref j, ?_,rfl,rfl,rfl, ?_,fun n e n0 he => ?_⟩
    · refine ixU_atU hk ?_
      rw [atI_nat _ _ f0 (by omega)]
      exact h1
    · rw [lenB_ref h2]
      simp [esD]
    · refine ixU_at h2 ?_
      unfold esD
      exact es_at n0 he
end Y
namespace Y
open PySem
section
variable {C : Cn} {O T T0 : Cs} {ρ : Rho} {elt t : CE} {g : Tg} {it : IT} {own : List Nat} {us : List U} {w : Option Nat} {tt : Cs} {live : Bool}
end
end Y
namespace Y
open PySem PySem.Spec L2
section
variable {P : Program} {w : World} {K : PySem.W.Frag} {mg : Str → Option Value} {base : Heap} {ca : Nat → Addr}
end
section
variable {ca : Nat → Addr} {X : Cx} {C : Cn} {p pos : Pos} {e : Expr} {es : List Expr} {as ka cc : CA} {N : List Str} {sc : Scope} {vm tm : List Bool} {n j np npos : Nat} {x : Str}
end
section
variable {ca : Nat → Addr} {X : Cx} {C : Cn} {p p2 pos pos2 : Pos} {a b : Expr} {ea eb : CE} {N : List Str} {sc : Scope} {vm tm : List Bool} {n : Nat}
end
end Y
namespace Y
open PySem PySem.Spec L2 PyProof.Rows
section
variable {X : Cx}
variable {ca : Nat → Addr} {l : Bool}
variable {C : Cn} {eo : CE} {as : CA}
end
section
variable {ca : Nat → Addr} {X : Cx} {C : Cn} {p pos : Pos} {e : Expr} {es : List Expr} {as cc : CA} {N : List Str} {sc : Scope} {vm tm : List Bool} {n j np : Nat} {x : Str}
variable {apos cpos : Pos} {o : Expr} {eo : CE}
end
end Y
namespace Y
open PySem PySem.Spec L2
open PySem.Sem (wp)
structure Src (prog : Program) (w : World) (it l : Addr) (xs : Array Value) where
  on : Nat → Heap → Prop
  keep : ∀ {i : Nat} {h h' : Heap},on i h → (∀ c o,(c = it ∨ c = l) → h.get? c = some o → h'.get? c = some o) → on i h'
  item : ∀ {A : Around} {E : Value → Shared → Prop} {s : Shared} {i : Nat} {x : Value} {Q : Value → Shared → Prop},on i s.heap → xs[i]? = some x →
    (∀ h',on (i + 1) h' → Heap.SameBut it s.heap h' → Q x { s with heap := h' }) → wpAny (model prog w) A (Builtin.SmallTypes.nextOf (.ref it)) Q E s
  stop : ∀ {A : Around} {E : Value → Shared → Prop} {s : Shared} {i : Nat} {Q : Value → Shared → Prop},A.handled = none → on i s.heap → xs[i]? = none →
    (∀ h' e,Heap.ExtBut it s.heap h' → (∃ o,h'.get? e = some o ∧ o.cls = .type "StopIteration") → E (.ref e) { s with heap := h' }) → wpAny (model prog w) A (Builtin.SmallTypes.nextOf (.ref it)) Q E s
section
variable {prog : Program} {w : World} {A : Around} {E : Value → Shared → Prop} {s : Shared}
theorem Src.ext {it l : Addr} {xs : Array Value} (S : Src prog w it l xs) {i : Nat} {h h' : Heap} (st : S.on i h) {b : Addr} (e : Heap.ExtBut b h h') (n1 : it ≠ b) (n2 : l ≠ b) : S.on i h' :=
  S.keep st fun c o hc q => e c o (by rcases hc with rfl | rfl <;> assumption) q
end
section
variable {prog : Program} {w : World} {A : Around} {E : Value → Shared → Prop} {s : Shared}
end
section
variable {ca : Nat → Addr} {φ φ' φ0 : List Addr} {G G' G0 H : Hp} {O T : Cs} {X : Cx} {K : PySem.W.Frag} {C : Cn} {σ : L2.St} {ρ : Rho} {pos p p2 tpos pos2 : Pos} {a b e tg : Expr} {ea eb ec : CE}
@[simp] theorem denI_zipTL (a b : CE) : denI C O ρ (.zipTL a b) T = (den C O ρ a T).bind fun x T => (den C O ρ b T).bind fun y T => match seqT x,seqL O T y,watch y with
    | some us,some ws,none => .ok ⟨(us.zip ws).map fun p => mkT [p.1,p.2],none,T⟩ T
    | _,_,_ => .fail := by rw [denI] <;> rfl
section
variable {N : List Str} {sc : Scope} {vm tm : List Bool} {n : Nat}
end
end
end Y
namespace Y
open PySem
namespace S
theorem own_lt {O T : Cs} {r : Nat} {c : Cell} (h : getC O T r = some c) : r < O.length + T.length := by
  rw [getC_eq] at h
  have := (List.getElem?_eq_some_iff.mp h).1
  simpa using this
theorem x2 (a b : D) : L2.atI [a,b] 0 = some a ∧ L2.atI [a,b] 1 = some b := ⟨rfl,rfl⟩
theorem x4 (a b c d : D) : L2.atI [a,b,c,d] 0 = some a ∧ L2.atI [a,b,c,d] 1 = some b ∧ L2.atI [a,b,c,d] 2 = some c ∧ L2.atI [a,b,c,d] 3 = some d := ⟨rfl,rfl,rfl,rfl⟩
theorem x5 (a b c d e : D) : L2.atI [a,b,c,d,e] 0 = some a ∧ L2.atI [a,b,c,d,e] 1 = some b ∧ L2.atI [a,b,c,d,e] 2 = some c ∧ L2.atI [a,b,c,d,e] 3 = some d ∧ L2.atI [a,b,c,d,e] 4 = some e := ⟨rfl,rfl,rfl,rfl,rfl⟩
section
variable {C : Cn} {O T T' : Cs} {ρ : Rho} {nx bk ct : Rho → Cs → Prop} {rt : U → Cs → Prop} {b : CB} {u : U}
theorem st_asg {k : Nat} {e : CE} (he : den C O ρ e T = .ok u T') (h : Wp (denB C O b (ρ.set k (some u)) T') nx bk ct rt) : Wp (denB C O (.cons (.asg (.nm k) e) b) ρ T) nx bk ct rt := by
  rw [denB_nx (ρ' := ρ.set k (some u)) (T' := T') (by rw [denS_asg,he,F.of_ok,asgT_nm])]
  exact h
theorem st_asgT {g : Tg} {e : CE} {ρ' : Rho} (he : den C O ρ e T = .ok u T') (hg : asgT O T' g u ρ = some ρ') (h : Wp (denB C O b ρ' T') nx bk ct rt) : Wp (denB C O (.cons (.asg g e) b) ρ T) nx bk ct rt := by
  rw [denB_nx (ρ' := ρ') (T' := T') (by rw [denS_asg,he,F.of_ok,hg])]
  exact h
theorem st_ex {e : CE} (he : den C O ρ e T = .ok u T') (h : Wp (denB C O b ρ T') nx bk ct rt) : Wp (denB C O (.cons (.ex e) b) ρ T) nx bk ct rt := by
  rw [denB_nx (ρ' := ρ) (T' := T') (by rw [denS_ex,he,F.of_ok])]
  exact h
theorem st_ret {e : CE} (he : den C O ρ e T = .ok u T') (h : rt u T') : Wp (denB C O (.cons (.ret e) b) ρ T) nx bk ct rt := by
  rw [denB_rt (u := u) (T' := T') (by rw [denS_ret,he,F.of_ok])]
  exact h
theorem st_nx {s : CS} {ρ' : Rho} (he : denS C O s ρ T = .nx ρ' T') (h : Wp (denB C O b ρ' T') nx bk ct rt) : Wp (denB C O (.cons s b) ρ T) nx bk ct rt := by
  rw [denB_nx he]
  exact h
theorem st_ite {t : CE} {a c : CB} (v : Bool) (he : den C O ρ t T = .ok (.d (.bool v)) T') (h : Wp (denB C O (if v = true then a else c) ρ T') (fun ρ T => Wp (denB C O b ρ T) nx bk ct rt) bk ct rt) : Wp (denB C O (.cons (.ite t a c) b) ρ T) nx bk ct rt := by
  rw [wp_cons,denS_ite,he,F.of_ok]
  cases v with
  | true => exact h
  | false => exact h
theorem st_nil (h : nx ρ T) : Wp (denB C O .nil ρ T) nx bk ct rt := by
  rw [denB_nil]
  exact h
theorem st_for {g : Tg} {it : IT} {c : CB} (its : Its) (T0 : Cs) (I : Nat → Rho → Cs → Prop) (e : denI C O ρ it T = .ok its T0) (h0 : I 0 ρ T0) (hw : ∀ i ρ T,I i ρ T → sameW O its.t T its.w = true)
    (h : ∀ i u,its.us[i]? = some u → ∀ ρ T,I i ρ T → ∃ ρ1,asgT O T g u ρ = some ρ1 ∧ Wp (denB C O c ρ1 T) (I (i + 1)) (fun ρ T => Wp (denB C O b ρ T) nx bk ct rt) (I (i + 1)) rt) (hx : ∀ ρ T,I its.us.length ρ T → Wp (denB C O b ρ T) nx bk ct rt) : Wp (denB C O (.cons (.for_ g it c) b) ρ T) nx bk ct rt := by
  rw [wp_cons]
  exact wp_for its T0 I e h0 hw h hx
end
def Gd (O : Cs) (d : D) (u : U) (T' : Cs) : Prop := u = .d d ∨ ∃ i ds,u = .ref i ∧ O.length ≤ i ∧ getC O T' i = some (.lst ds) ∧ d = .list ds
theorem Gd.d {O T : Cs} (d : D) : Gd O d (.d d) T := .inl rfl
theorem Gd.l {O T : Cs} {i : Nat} {ds : List D} (h : getC O T i = some (.lst ds)) (hi : O.length ≤ i) : Gd O (.list ds) (.ref i) T := .inr ⟨i,ds,rfl,hi,h,rfl⟩
theorem ixN_of {n : Nat} {k : Int} (h : 0 ≤ k) (h2 : k < n) : L2.ixN n k = some k.toNat := by
  unfold L2.ixN
  simp [h,h2]
section
variable {C : Cn} {O T : Cs} {ρ : Rho}
end
end S
end Y
namespace Y
open PySem PySem.Spec PyProof.Rows GQ
def Held (P : Program) (w : World) (h : Heap) (S : Addr) (xs : List Str) (i : Nat) : Prop := h.SetOf (PySem.strKind P w) S (fun z => (xs.take i).any (· == z)) (dif (xs.take i)).length
section
variable {P : Program} {w : World} {A : Around} {h h' : Heap} {S : Addr} {xs : List Str} {i : Nat}
theorem Held.keep (H : Held P w h S xs i) (k : ∀ o,h.get? S = some o → h'.get? S = some o) : Held P w h' S xs i := by
  obtain ⟨o,es,ep,t,ho,rest⟩ := H
  exact ⟨o,es,ep,t,k o ho,rest⟩
variable {R : Result → Shared → Prop} {I : Addr} {fp wr : List Addr} {Gn : Array GenState → Array GenState → Prop} {n : Nat} {Pv : Nat → Value → Prop} {St : Nat → Shared → Prop}
end
section
variable {P : Program} {w : World} {A : Around} {E : Value → Shared → Prop} {s : Shared}
end
end Y
namespace Y
open PySem PySem.Spec L2 PyProof.Rows
section
variable {X : Cx}
variable {P : Program} {w : World} {K : PySem.W.Frag} {mg : Str → Option Value} {base : Heap} {ca : Nat → Addr} {N : List Str} {sc : Scope} {vm tm : List Bool} {n : Nat} {C : Cn} {a : Expr} {ea : CE} {p p2 pos pos2 : Pos}
end
end Y
namespace L2
open PySem PySem.Spec PyProof.Rows
section
variable {X : Cx}
theorem PS.nox {st : Stmt} {t : TS} (h : PS X.nox st t) : PS X st t := ⟨fun pins s σ H D I hw =>
  wpAny_mono (h.run pins s σ H D (I.wish _) hw) (fun _ _ q => q.unwish) fun _ _ z => False.elim z⟩
theorem PA.nox {es : List Expr} {t : TA} (h : PA X.nox es t) : PA X es t := ⟨fun pos pins s σ H Q I hw =>
  wpAny_mono (h.run pos pins s σ H Q (I.wish _) hw) (fun _ _ ⟨v,H',I',r,q⟩ => ⟨v,H',I'.unwish,r,q⟩) fun _ _ z => False.elim z⟩
theorem PI.nox {tg e : Expr} {t : TI} (h : PI X.nox tg e t) : PI X tg e t := ⟨fun pins s σ H R I hw =>
  wpAny_mono (h.run pins s σ H R (I.wish _) hw) (fun _ _ z => wpAny_mono z (fun _ _ ⟨it,fp,tn,J,H',e,I',a,b,c,d⟩ => ⟨it,fp,tn,J,H',e,I'.unwish,a,b,c,d⟩) fun _ _ z => False.elim z) fun _ _ z => False.elim z⟩
theorem PG.nox {tg : Expr} {t : TG} (h : PG X.nox tg t) : PG X tg t := ⟨fun pins s σ H v u Q I r hw =>
  wpAny_mono (h.run pins s σ H v u Q (I.wish _) r hw) (fun _ _ ⟨σ',H',I',q⟩ => ⟨σ',H',I'.unwish,q⟩) fun _ _ z => False.elim z⟩
end
end L2
namespace Y
open PySem PySem.Spec PyProof.Rows L2
section
variable {ca : Nat → Addr} {φ φ' φ0 : List Addr} {G G' G0 H : Hp} {O T : Cs} {X : Cx} {K : PySem.W.Frag} {C : Cn} {σ : L2.St} {ρ : Rho} {D : Ends} {W : WX} {pos p apos cpos tpos : Pos} {a b e tg o i : Expr} {ea eb ec eo : CE} {as : CA} {es : List Expr}
def PFx (ca : Nat → Addr) (φ : List Addr) (G : Hp) (O : Cs) (r : F) (D : Ends) (W : WX) : Prop := match r with
  | .exc c fs ρ T => ∀ σ φ' G' H' d,Fut φ G φ' G' → At ca φ' G' H' O T σ ρ → XF G' d fs → W (.ref (ca c)) d σ H'
  | r => PF ca φ G O r D
theorem PFx.later {r : F} (f : Fut φ G φ' G') (h : PFx ca φ G O r D W) : PFx ca φ' G' O r D W := by
  cases r with
  | exc c fs ρ T => exact fun σ φ2 G2 H2 d f2 t x => h σ φ2 G2 H2 d (f.trans f2) t x
  | nx ρ T => exact fun σ φ2 G2 H2 f2 t => h σ φ2 G2 H2 (f.trans f2) t
  | rt u T => exact fun v φ2 G2 H2 f2 s r => h v φ2 G2 H2 (f.trans f2) s r
  | bk ρ T => exact fun σ φ2 G2 H2 f2 t => h σ φ2 G2 H2 (f.trans f2) t
  | ct ρ T => exact fun σ φ2 G2 H2 f2 t => h σ φ2 G2 H2 (f.trans f2) t
  | fail => exact h
theorem PFx.pf {r : F} (h : PFx ca φ G O r D W) (hn : ∀ c fs ρ T,r ≠ .exc c fs ρ T) : PF ca φ G O r D := by
  cases r with
  | exc c fs ρ T => exact absurd rfl (hn c fs ρ T)
  | nx ρ T => exact h
  | rt u T => exact h
  | bk ρ T => exact h
  | ct ρ T => exact h
  | fail => exact h
def RSx (ca : Nat → Addr) (C : Cn) (W : WX) (c : CS) : TS := fun D σ H => ∃ φ G O ρ T,At ca φ G H O T σ ρ ∧ PFx ca φ G O (denS C O c ρ T) D W
def RBx (ca : Nat → Addr) (C : Cn) (W : WX) (c : CB) : TS := fun D σ H => ∃ φ G O ρ T,At ca φ G H O T σ ρ ∧ PFx ca φ G O (denB C O c ρ T) D W
def NoX (c : CS) : Prop := ∀ (C : Cn) (O : Cs) (ρ : Rho) (T : Cs) k fs ρ' T',denS C O c ρ T ≠ .exc k fs ρ' T'
theorem of_nox {r : R U} {k : U → Cs → F} (h : ∀ u T c fs ρ' T',k u T ≠ .exc c fs ρ' T') : ∀ c fs ρ' T',F.of ρ r k ≠ .exc c fs ρ' T' := by
  intro c fs ρ' T'
  cases r with
  | ok u T => exact h u T c fs ρ' T'
  | exc => exact fun z => nomatch z
  | fail => exact fun z => nomatch z
theorem n_asg {g : Tg} {e : CE} : NoX (.asg g e) := fun C O ρ T => by
  rw [denS]
  refine of_nox fun u T k fs ρ' T' => ?_
  cases asgT O T g u ρ <;> exact fun z => nomatch z
theorem n_ret {e : CE} : NoX (.ret e) := fun C O ρ T => by
  rw [denS]
  exact of_nox fun u T k fs ρ' T' => fun z => nomatch z
theorem x_st {st : Stmt} {c : CS} (h : PS X.nox st (RS ca C c)) (hn : NoX c) : PS X st (RSx ca C W c) := h.nox.imp fun D σ H => by
  rintro ⟨φ,G,O,ρ,T,t,h⟩
  exact ⟨φ,G,O,ρ,T,t,h.pf fun k fs ρ' T' => hn C O ρ T k fs ρ' T'⟩
theorem x_nil : PSs X [] (RBx ca C W .nil) := pss_nil.imp fun D σ H => by
  rintro ⟨φ,G,O,ρ,T,t,h⟩
  rw [denB] at h
  exact h σ φ G H Fut.refl t
theorem x_cons {st : Stmt} {sts : List Stmt} {c : CS} {b : CB} (h1 : PS X st (RSx ca C W c)) (h2 : PSs X sts (RBx ca C W b)) : PSs X (st :: sts) (RBx ca C W (.cons c b)) := (pss_cons h1 h2).imp fun D σ H => by
  rintro ⟨φ,G,O,ρ,T,t,h⟩
  rw [denB] at h
  refine ⟨φ,G,O,ρ,T,t, ?_⟩
  cases e : denS C O c ρ T with
  | nx ρ' T' =>
    rw [e] at h
    exact fun σ' φ' G' H' f t' => ⟨φ',G',O,ρ',T',t',PFx.later f h⟩
  | rt u T' => rw [e] at h; exact h
  | bk ρ T => rw [e] at h; exact h
  | ct ρ T => rw [e] at h; exact h
  | exc => rw [e] at h; exact h
  | fail => rw [e] at h; exact h
theorem PFx.br {r : R U} {k : Bool → Cs → F} (h : PFx ca φ G O (F.of ρ r fun x T => match asB x with | some true => k true T | some false => k false T | none => .fail) D W) :
    Pc ca rB φ G O (tst r) (fun b H' => Mid ca rB φ G O b H' fun a T' φ' G' => PFx ca φ' G' O (k a T') D W) := by
  cases r with
  | ok u T =>
    have h : PFx ca φ G O (match asB u with | some true => k true T | some false => k false T | none => .fail) D W := h
    show Pc ca rB φ G O (R.ofO T (asB u)) _
    cases e : asB u with
    | none => rw [e] at h; exact h
    | some b =>
      rw [e] at h
      intro b' φ2 G2 H2 f2 s r
      have r : b' = b := r
      subst r
      refine ⟨φ2,G2,T,b',f2,s,rfl, ?_⟩
      cases b' <;> exact PFx.later f2 h
  | exc => exact h
  | fail => exact h
theorem x_if {t : Expr} {a b : List Stmt} {ct : CE} {cx cy : CB} (ht : PT X.nox t (RT ca C ct)) (ha : PSs X a (RBx ca C W cx)) (hb : PSs X b (RBx ca C W cy)) : PS X (.If t a b pos) (RSx ca C W (.ite ct cx cy)) := (ps_if ht.nox ha hb).imp fun D σ H => by
  rintro ⟨φ,G,O,ρ,T,t,h⟩
  rw [denS] at h
  refine ⟨φ,G,O,ρ,T,t,Pc.imp (PFx.br (k := fun b T => if b = true then denB C O cx ρ T else denB C O cy ρ T) h) ?_⟩
  rintro k H1 ⟨φ1,G1,T1,u,f1,s1,r1,h1⟩
  have r1 : k = u := r1
  subst r1
  cases k with
  | true => exact ⟨φ1,G1,O,ρ,T1,⟨s1,f1.lo t.l,t.n⟩,h1⟩
  | false => exact ⟨φ1,G1,O,ρ,T1,⟨s1,f1.lo t.l,t.n⟩,h1⟩
theorem x_fo {tg e : Expr} {b : List Stmt} {g : Tg} {it : IT} {cb : CB} (hp : PassesOwn (model X.prog X.w) X.A X.env X.xe) (hc : X.calm = true) (hi : PI X tg e (RI ca C it)) (hg : PG X tg (RG ca g)) (hb : PSs X b (RBx ca C W cb))
    (hs : ∀ x,foldedSetIterable e X.env x = pure x) : PS X (.For tg e b [] pos) (RSx ca C W (.for_ g it cb)) := (ps_for hp hc hi hg hb hs).imp fun D σ H => by
  rintro ⟨φ,G,O,ρ,T,t,h⟩
  rw [denS] at h
  refine ⟨φ,G,O,ρ,T,t, ?_⟩
  cases ei : denI C O ρ it T with
  | exc => rw [ei] at h; exact h
  | fail => rw [ei] at h; exact h
  | ok its T0 =>
    rw [ei] at h
    intro J φ1 G1 H1 f1 s1 jok
    generalize hbd : (fun u ρ T => match asgT O T g u ρ with
        | some ρ' => denB C O cb ρ' T
        | none => F.fail) = bd at h
    refine ⟨fun i m σ H => ∃ φ G ρ T,Fut φ1 G1 φ G ∧ At ca φ G H O T σ ρ ∧ m = its.us.length - i ∧ i ≤ its.us.length ∧ PFx ca φ G O (loopF bd (fun T' => sameW O its.t T' its.w) (its.us.drop i) ρ T) D W,
      ⟨its.us.length,φ1,G1,ρ,T0,Fut.refl,⟨s1,f1.lo t.l,t.n⟩,rfl,Nat.zero_le _,PFx.later f1 h⟩, ?_⟩
    rintro i m σ H ⟨φ,G,ρ,T,f,t,rfl,hi,h⟩
    by_cases hlt : i < its.us.length
    · rw [List.drop_eq_getElem_cons hlt] at h
      by_cases hw : sameW O its.t T its.w = true
      · rw [loopF_c _ _ _ _ _ _ hw] at h
        have jj := (jok φ G H T f t.s hw).1 i its.us[i] (List.getElem?_eq_getElem hlt)
        refine .inr ⟨jj.1,fun σ' H' => ∃ φ G ρ T,Fut φ1 G1 φ G ∧ At ca φ G H' O T σ' ρ ∧ PFx ca φ G O (loopF bd (fun T' => sameW O its.t T' its.w) (its.us.drop (i + 1)) ρ T) D W,
          fun σ' H' hh => ⟨its.us.length - (i + 1),by omega, ?_⟩,fun x H' hy => ?_⟩
        · obtain ⟨φ2,G2,ρ2,T2,a,b,c⟩ := hh
          exact ⟨φ2,G2,ρ2,T2,a,b,rfl,hlt,c⟩
        · obtain ⟨_,G2,f2,s2,r2⟩ := jj.2 x H' hy
          refine ⟨φ,G2,O,ρ,T,its.us[i],⟨s2,f2.lo t.l,t.n⟩,r2, ?_⟩
          rw [← hbd] at h
          simp only at h
          rw [hbd] at h
          cases ea : asgT O T g its.us[i] ρ with
          | none => rw [ea] at h; exact h
          | some ρ' =>
            rw [ea] at h
            simp only at h ⊢
            refine fun σ' t' _ => ⟨φ,G2,O,ρ',T,t', ?_⟩
            cases eb : denB C O cb ρ' T with
            | nx ρ2 T2 => rw [eb] at h; exact fun σ3 φ3 G3 H3 f3 t3 => ⟨φ3,G3,ρ2,T2,(f.trans f2).trans f3,t3,PFx.later (f2.trans f3) h⟩
            | ct ρ2 T2 => rw [eb] at h; exact fun σ3 φ3 G3 H3 f3 t3 => ⟨φ3,G3,ρ2,T2,(f.trans f2).trans f3,t3,PFx.later (f2.trans f3) h⟩
            | bk ρ2 T2 => rw [eb] at h; exact fun σ3 φ3 G3 H3 f3 t3 => h σ3 φ3 G3 H3 (f2.trans f3) t3
            | rt u T2 => rw [eb] at h; exact fun v3 φ3 G3 H3 f3 s3 r3 => h v3 φ3 G3 H3 (f2.trans f3) s3 r3
            | exc => rw [eb] at h; exact PFx.later f2 h
            | fail => rw [eb] at h; exact h
      · rw [loopF,if_neg hw] at h
        exact h.elim
    · have e : i = its.us.length := by omega
      subst e
      rw [List.drop_length,loopF] at h
      by_cases hw : sameW O its.t T its.w = true
      · rw [if_pos hw] at h
        exact .inl ⟨(jok φ G H T f t.s hw).2,h σ φ G H Fut.refl t⟩
      · rw [if_neg hw] at h
        exact h.elim
theorem s_raise0 {st : Stmt} {c : Nat} {ns : List Str} {as : CA} : PS X st (RS ca C (.raise c ns as)) := ps_never.imp fun D σ H => by
  rintro ⟨φ,G,O,ρ,T,t,h⟩
  rw [denS] at h
  split at h
  · split at h
    · split at h <;> exact h
    · exact h
  · exact h
def PcX (ca : Nat → Addr) (φ : List Addr) (G : Hp) (O : Cs) (r : R U) (Q : VK) (E : XK) : Prop := match r with
  | .ok u T => Pc ca rU φ G O (.ok u T) Q
  | .exc c fs T => ∀ φ' G' H' d,Fut φ G φ' G' → Sd ca φ' G' H' (O ++ T) → XF G' d fs → E (.ref (ca c)) d H'
  | .fail => False
def spX (ca : Nat → Addr) (call : Cs → Nat → List U → Cs → R U) (f np : Nat) : Sp := fun vs H Q E => ∃ φ G O T us,us.length = np ∧ Sd ca φ G H (O ++ T) ∧ RpUs G φ vs us ∧ PcX ca φ G O (call O f us T) Q E
theorem PcX.later {r : R U} {Q : VK} {E : XK} (f : Fut φ G φ' G') (h : PcX ca φ G O r Q E) : PcX ca φ' G' O r Q E := by
  cases r with
  | ok u T => exact fun b φ2 G2 H2 f2 s r => h b φ2 G2 H2 (f.trans f2) s r
  | exc c fs T => exact fun φ2 G2 H2 d f2 t x => h φ2 G2 H2 d (f.trans f2) t x
  | fail => exact h
theorem callPx_ok {f : Nat} {vs : List V} {us : List U} {np : Nat} {Q : VK} {E : XK} (hn : us.length = np) (h : PcX ca φ0 G0 O (callP C O f us T) Q E) (ff : Fut φ0 G0 φ G) (s : Sd ca φ G H (O ++ T)) (r : RpUs G φ vs us) : spX ca C.call f np vs H Q E := by
  cases e : C.call (O ++ T) f us [] with
  | fail =>
    unfold callP at h
    rw [e] at h
    exact h.elim
  | exc c fs T' =>
    have ec : callP C O f us T = .exc c fs T := by unfold callP; rw [e]
    rw [ec] at h
    refine ⟨φ,G,O ++ T,[],us,hn,by rw [List.append_nil]; exact s,r, ?_⟩
    rw [e]
    intro φ' G' H' d f1 s1 x
    have h := PcX.later ff h
    exact h φ G' H' d ⟨fun _ _ z => z,f1.ex⟩ (Sd.drop s f1 s1) x
  | ok u T' =>
    have hno : ∀ c fs T2,callP C O f us T ≠ .exc c fs T2 := fun c fs T2 => by
      unfold callP
      rw [e]
      cases u with
      | d x => exact fun z => nomatch z
      | tup us => exact fun z => nomatch z
      | ref i =>
        simp only
        split
        · split <;> exact fun z => nomatch z
        · exact fun z => nomatch z
    have h2 : Pc ca rU φ0 G0 O (callP C O f us T) Q := by
      cases e2 : callP C O f us T with
      | ok u2 T2 => rw [e2] at h; exact h
      | exc c fs T2 => exact absurd e2 (hno c fs T2)
      | fail => rw [e2] at h; exact h
    obtain ⟨φ1,G1,O1,T1,us1,a1,a2,a3,a4⟩ := callP_ok (np := np) (E := E) hn h2 ff s r
    refine ⟨φ1,G1,O1,T1,us1,a1,a2,a3, ?_⟩
    cases e3 : C.call O1 f us1 T1 with
    | ok u2 T2 => rw [e3] at a4; exact a4
    | exc => rw [e3] at a4; exact a4.elim
    | fail => rw [e3] at a4; exact a4
theorem callLx_ok {f : Nat} {vs : List V} {us : List U} {np : Nat} {Q : VK} {E : XK} (hn : us.length = np) (h : PcX ca φ0 G0 O (C.call O f us T) Q E) (ff : Fut φ0 G0 φ G) (s : Sd ca φ G H (O ++ T)) (r : RpUs G φ vs us) : spX ca C.call f np vs H Q E :=
  ⟨φ,G,O,T,us,hn,s,r,PcX.later ff h⟩
theorem to_xcall {g : Option Nat} {l : Bool} {f np : Nat} {Q : VK} (hlen : ∀ O us T,us.length ≠ np → C.call O f us T = .fail) (t : At ca φ G H O T σ ρ) (h : PFx ca φ G O (denS C O (.xcall g l f as) ρ T) D W)
    (hQ : ∀ v u T' φ' G' H',Fut φ G φ' G' → Sd ca φ' G' H' (O ++ T') → RpU G' φ' v u → PF ca φ' G' O (match (generalizing := false) g with | some i => .nx (ρ.set i (some u)) T' | none => .nx ρ T') D → Q v H') : tCallS (spX ca C.call f np) (WE W) (RA ca C as) σ H Q := by
  refine ⟨φ,G,O,ρ,T,t, ?_⟩
  rw [denS] at h
  cases ea : denA C O ρ as T with
  | exc => rw [ea] at h; exact h
  | fail => rw [ea] at h; exact h
  | ok us T1 =>
    rw [ea] at h
    simp only at h
    intro vs φ1 G1 H1 f1 s1 r1
    have r1 : RpUs G1 φ1 vs us := r1
    have h := PFx.later f1 h
    by_cases hn : us.length = np
    · have key : PcX ca φ1 G1 O (if l = true then C.call O f us T1 else callP C O f us T1) Q (WE W σ) := by
        cases er : (if l = true then C.call O f us T1 else callP C O f us T1) with
        | fail => rw [er] at h; exact h
        | exc c fs T2 =>
          rw [er] at h
          exact fun φ2 G2 H2 d f2 s2 x => h σ φ2 G2 H2 d f2 ⟨s2,(f1.trans f2).lo t.l,t.n⟩ x
        | ok u T2 =>
          rw [er] at h
          intro v φ2 G2 H2 f2 s2 r2
          refine hQ v u T2 φ2 G2 H2 (f1.trans f2) s2 r2 ?_
          cases g with
          | none => exact PF.later f2 h
          | some i => exact PF.later f2 h
      cases l with
      | true => rw [if_pos rfl] at key; exact callLx_ok hn key Fut.refl s1 r1
      | false => rw [if_neg Bool.false_ne_true] at key; exact callPx_ok hn key Fut.refl s1 r1
    · have e0 : (if l = true then C.call O f us T1 else callP C O f us T1) = .fail := by
        cases l with
        | true => rw [if_pos rfl]; exact hlen _ _ _ hn
        | false =>
          rw [if_neg Bool.false_ne_true]
          unfold callP
          rw [hlen _ _ _ hn]
      rw [e0] at h
      exact h.elim
end
structure CalX (P : Program) (w : World) (K : PySem.W.Frag) (mg : Str → Option Value) (base : Heap) (ca : Nat → Addr) (call : Cs → Nat → List U → Cs → R U) (n j np : Nat) (x : Str) : Prop where
  ex : ∃ (f : Addr) (fd : FuncData) (ps : List Str),FnOk P w K mg base (L2.CX P w) n f fd ps (spX ca call j np) ∧ mg x = some (.ref f) ∧ PySem.W.keepIn K (.ref f) = true ∧ Binds K fd ps []
  len : ∀ O us T,us.length ≠ np → call O j us T = .fail
section
variable {ca : Nat → Addr} {X : Cx} {C : Cn} {W : WX} {pos p apos cpos tpos : Pos} {e tg : Expr} {as : CA} {es : List Expr} {N : List Str} {sc : Scope} {vm tm : List Bool} {n j np : Nat} {x y : Str}
theorem x_callE (g : Cg X.nox N sc vm tm n) (tk : Takes X W) {l : Bool} (F : CalX X.prog X.w X.K X.mg X.base ca C.call n j np x) (ha : PA X.nox (e :: es) (RA ca C as)) (hg : sc.names.lookup x = some .globalImplicit := by rfl) (hdb : (x == ("__debug__" : Str)) = false := by decide)
    (he : starEach (e :: es) X.env = (false,eval e X.env) :: starEach es X.env := by rfl) (hpl : (backTo pos (starEach es X.env)).any (·.1) = false := by rfl) (hs : swapsWith (.Call (.Name x p) (e :: es) [] pos) none cpos.line X.env = pure false := by rfl) :
    PS X (.Expr (.Call (.Name x p) (e :: es) [] pos) cpos) (RSx ca C W (.xcall none l j as)) := by
  obtain ⟨f,fd,ps,h1,h2,h3,h4⟩ := F.ex
  refine (ps_expr (pe_callS h1 g.room (show Gl X x from gl_of (X := X.nox) g hg) h2 h3 h4 (fun σ => passAt tk σ) ha.nox hdb he hpl) hs).imp fun D σ H => ?_
  rintro ⟨φ,G,O,ρ,T,t,h⟩
  exact to_xcall F.len t h fun v u T' φ' G' H' f s r q => q σ φ' G' H' Fut.refl ⟨s,f.lo t.l,t.n⟩
theorem x_for (g : Cg X.nox N sc vm tm n) (hp : PassesOwn (model X.prog X.w) X.A X.env X.xe) {b : List Stmt} {q : Tg} {it : IT} {cb : CB} (hi : PI X.nox tg e (RI ca C it)) (hg : PG X.nox tg (RG ca q)) (hb : PSs X b (RBx ca C W cb)) (hs : ∀ x,foldedSetIterable e X.env x = pure x := by intro _; rfl) : PS X (.For tg e b [] pos) (RSx ca C W (.for_ q it cb)) :=
  x_fo hp g.calm hi.nox hg.nox hb hs
end
section
variable {P : Program} {w : World} {K : PySem.W.Frag} {mg : Str → Option Value} {base : Heap} {ca : Nat → Addr} {φ : List Addr} {Gh : Hp}
theorem def_okX {x qual : Str} {st : Stmt} {f : Addr} {fd : FuncData} {N ps : List Str} {sc : Scope} {vm : List Bool} {G : Pg} {j np ns n : Nat} {b : CB} (F : Fun K x qual st f fd) (hsc : defScope st = sc) (S : FnScope N ps sc) (hG : G.defs j = some ⟨np,ns,b⟩) (hps : ps.length = np) (hns : N.length = ns)
    (hn : decide N.Nodup = true) (hv : visAll N sc vm = true) (ht : tgtAll N sc vm = true)
    (hb : ∀ (X : Cx) (W : WX),X.prog = P → X.w = w → X.K = K → X.mg = mg → X.base = base → Cg X.nox N sc vm vm (2 * n + 2) → Takes X W → PassesOwn (model X.prog X.w) X.A X.env X.xe → PSs X (defBody st) (RBx ca (cn G n) W b)) : FnOk P w K mg base (L2.CX P w) (2 * n + 3) f fd ps (spX ca (run G (n + 1)) j np) := by
  subst hsc
  refine F.okX S (fun vs H Q E h => ?_) (fun cdv A outer s H vs Q E hr h => ⟨_,hb _ (fun cls d _ H => E cls d H) rfl rfl rfl rfl rfl (Cg.ofDef (H := H) (E := E) hn hv ht hr) (takes_of rfl rfl rfl rfl) (passes_of rfl), ?_⟩)
  · obtain ⟨φ,G0,O,T,us,hl,s,r,q⟩ := h
    rw [r.length,hl,hps]
  · obtain ⟨φ,G0,O,T,us,hl,s,r,q⟩ := h
    rw [run,hG] at q
    have q : PcX ca φ G0 O (if us.length = np then match denB (cn G n) O b (us.map some ++ List.replicate (ns - us.length) none) T with
    | .nx _ T' => .ok (.d .none) T'
    | .rt u T' => .ok u T'
    | .exc c fs _ T' => .exc c fs T'
    | _ => .fail else .fail) Q E := q
    rw [if_pos hl] at q
    refine ⟨φ,G0,O,us.map some ++ List.replicate (ns - us.length) none,T,⟨s, ?_, ?_⟩, ?_⟩
    · show Lo G0 φ (vs.map some ++ List.replicate (N.length - vs.length) none) _
      rw [hns,r.length]
      exact start_lo _ r
    · show (vs.map some ++ List.replicate (N.length - vs.length) none).length = _
      simp [hns,r.length]
    · cases e : denB (cn G n) O b (us.map some ++ List.replicate (ns - us.length) none) T with
      | nx ρ T' =>
        rw [e] at q
        exact fun σ φ' G' H' f t => q .non φ' G' H' f t.s (.d .non)
      | rt u T' =>
        rw [e] at q
        exact fun v φ' G' H' f s r => q v φ' G' H' f s r
      | bk ρ T' => rw [e] at q; exact q.elim
      | ct ρ T' => rw [e] at q; exact q.elim
      | exc c fs ρ T' =>
        rw [e] at q
        exact fun σ φ' G' H' d f t x => q φ' G' H' d f t.s x
      | fail => rw [e] at q; exact q.elim
theorem def_0X {kl : Nat} {f : Addr} {fd : FuncData} {ps : List Str} {G : Pg} {j np : Nat} : FnOk P w K mg base (L2.CX P w) kl f fd ps (spX ca (run G 0) j np) where
  len := by
    rintro vs H Q E ⟨φ,G0,O,T,us,hl,s,r,q⟩
    exact q.elim
  run := by
    rintro A outer s H args us vs Q E hr e0 hb hv ⟨φ,G0,O,T,us,hl,s,r,q⟩
    exact q.elim
end
end Y
namespace Y
open PySem PySem.Spec PyProof.Rows L2
theorem xO_ok {P : Program} {w : World} {H : Hp} {h : Heap} {a C : Addr} {d : Option Addr} (x : ∃ oe,h.get? a = some oe ∧ oe.cls = .ref C ∧ oe.dict = d ∧ ∃ vs,oe.data = .fields vs) : ObjOk P w H h a (xO a C d) :=
  ⟨x,by obtain ⟨oe,e,_⟩ := x; exact ⟨oe,e⟩,fun h1 h2 z k => by
    obtain ⟨oe,e,r⟩ := z
    exact ⟨oe,k _ e,r⟩⟩
theorem xO_at {P : Program} {w : World} {H : Hp} {h : Heap} {a C : Addr} {d : Option Addr} (hok : HOk P w H h) (e : H a = some (xO a C d)) : ∃ oe,h.get? a = some oe ∧ oe.cls = .ref C ∧ oe.dict = d ∧ ∃ vs,oe.data = .fields vs := by
  have x : ObjOk P w H h a (.ext fun h => ∃ oe,h.get? a = some oe ∧ oe.cls = .ref C ∧ oe.dict = d ∧ ∃ vs,oe.data = .fields vs) := hok a _ e
  exact x.1
section
variable {X : Cx} {pins : List (Addr × Obj)} {σ : L2.St} {H : Hp} {sI s' : Shared} {B : Heap} {a C : Addr} {d : Option Addr}
theorem landedT (I : Inv X pins σ H sI) (nb : ∀ b o,sI.heap.get? b = some o → b ∉ frs X.stack → B.get? b = some o) (st : B.StaysIn s'.heap) (up : sI.heap.UpToSlots s'.heap) (os : s'.os = sI.os) (ag : AllBare s'.gens)
    (na : H a = none) (ns : sI.heap.get? a = none) (hx : ∃ oe,s'.heap.get? a = some oe ∧ oe.cls = .ref C ∧ oe.dict = d ∧ ∃ vs,oe.data = .fields vs) : Inv X pins σ (upd H a (xO a C d)) s' := by
  have nf : ∀ b ∈ frs X.stack,∀ o,sI.heap.get? b = some o → ∃ sl,s'.heap.get? b = some { o with slots := sl } := fun b hb o e => by
    obtain ⟨_,o',e',hd⟩ := I.stack.mem hb
    rw [e] at e'; cases e'
    exact up b o e hd
  have nea : ∀ b o,sI.heap.get? b = some o → b ≠ a := fun b o e z => by
    rw [z,ns] at e
    cases e
  have hok : HOk X.prog X.w (upd H a (xO a C d)) s'.heap := fun b o q => by
    by_cases e : b = a
    · subst e
      rw [upd_same] at q
      cases q
      exact xO_ok hx
    · rw [upd_ne e] at q
      exact (((I.inGround nb).kept st) b o q).stay (fun _ _ _ r => r) (fun c hc => by rw [upd_ne (ne_of_none hc na)]; exact hc) fun c xs hc => by rw [upd_ne (ne_of_none hc na)]; exact hc
  have J := I.call (ch := []) (h' := s'.heap) (g' := s'.gens) (t' := s'.toks) (d' := s'.drawn) (H' := upd H a (xO a C d))
    ⟨fun b o e _ hb _ => st b o (nb b o e hb),fun b o e _ hb _ => nf b hb o e,fun b o e n _ => by rw [upd_ne (nea b o e)]; exact n,fun b o e _ => by
      by_cases hb : b ∈ frs X.stack
      · obtain ⟨sl,q⟩ := nf b hb o e
        exact ⟨_,q⟩
      · exact ⟨o,st b o (nb b o e hb)⟩,fun b xs e => by rw [upd_ne (ne_of_none e na)]; exact e,fun b o u e => by rw [upd_ne (ne_of_none e na)]; exact e,fun b ps e => ⟨#[],by rw [upd_ne (ne_of_none e na),e]; simp⟩⟩
    hok ag (fun _ z => nomatch z)
  obtain ⟨a1,a2,a3,a4,a5⟩ := s'
  have e5 : a5 = sI.os := os
  subst e5
  exact J
theorem suiteT (I : Inv X pins σ H s') : Inv (X.suite a (X.pn ++ pins)) [] σ H s' :=
  ⟨I.ok.suite _ _,I.os,I.bare,I.base,I.loc,I.cell,I.free,I.freeC,fun p hp => I.pin p (by rw [List.append_nil] at hp; exact hp),I.hok,I.len⟩
theorem unsuiteT {pn' : List (Addr × Obj)} (I : Inv (X.suite a (X.pn ++ pins)) pn' σ H s') (ok : X.Ok) : Inv X pins σ H s' :=
  ⟨ok,I.os,I.bare,I.base,I.loc,I.cell,I.free,I.freeC,fun p hp => I.pin p (List.mem_append_left _ hp),I.hok,I.len⟩
end
def wAsT (K : PySem.W.Frag) (c : Value) (i : Nat) (ts : TS) (Wout : WX) (D : Ends) : WX := fun cls d σ H =>
  ∃ b,PySem.W.exmOne K cls c = some b ∧ (b = true → ∃ C,cls = .ref C ∧ ∀ a,H a = none → ts { nx := fun σ' H' => D.nx (σ'.set i none) H',rt := D.rt,bk := fun σ' H' => D.bk (σ'.set i none) H',ct := fun σ' H' => D.ct (σ'.set i none) H' } (σ.set i (some (.ref a))) (upd H a (xO a C d))) ∧
    (b = false → Wout cls d σ H)
section
variable {X : Cx} {x n : Str} {c : Value} {i : Nat} {body suite : List Stmt} {b₀ : Stmt} {np pos pos' : Pos} {tb : WX → TS} {ts : TS} {Wout : WX}
theorem ps_try_asT (hs : X.stack = X.env :: X.outer) (hf : X.env.frame = some X.env.locals) (hN : X.N.Nodup) (hi : X.N[i]? = some n) (hln : X.env.kindOf n = some .local) (hc : Names X x c) (tk : Takes X Wout)
    (hb : ∀ (W : WX) (pn : List (Addr × Obj)) (xe : Value → Shared → Prop),Takes (X.tr pn xe) W → PassesOwn (model X.prog X.w) X.A X.env xe → PSs (X.tr pn xe) body (tb W))
    (hsu : ∀ (a : Addr) (pn : List (Addr × Obj)),PSs (X.suite a pn) (b₀ :: suite) ts) :
    PS X (.Try body [.ExceptHandler (some (.Name x np)) (some n) (b₀ :: suite) pos'] [] [] pos) (fun D σ H => tb (wAsT X.K c i ts Wout D) D σ H) := by
  refine ⟨fun pins s σ H D I h => ?_⟩
  have ok := I.ok
  have hfr : X.A.frames = some (X.env :: X.outer) := by rw [ok.frames,hs]
  have hloc : Loc X.env.scope n := .inl hln
  refine wpAny_Try_except ?_
  refine wpAny_mono ((hb (wAsT X.K c i ts Wout D) (X.pn ++ pins) (fun e s₁ => wpAny (model X.prog X.w) X.A (noteFrame e X.env) (fun _ s₂ => wpAny (model X.prog X.w) X.A (setFlight e none) (fun _ s₃ =>
    wpAny (model X.prog X.w) X.A (handleBy e X.env [.ExceptHandler (some (.Name x np)) (some n) (b₀ :: suite) pos']) (SP X pins D) X.xe s₃) X.xe s₂) X.xe s₁) (fun u s' xx => ?_) PassesOwn.looking).run [] s σ H D (I.toTry _) h) (fun f s1 hsp => ?_) (fun e s1 he => he)
  ·
    obtain ⟨a,B,sI,pins',σ',H',cls,d,rfl,J',nb,up,sky,na,os,ag,b,hb1,hyes,hno⟩ := xx
    have J : Inv X pins σ' H' sI := J'.ofTry ok
    have sky' : Sky B (X.env :: X.outer) a (Zc cls d) X.env.locals s'.heap := by rw [← hs]; exact sky
    show wpAny (model X.prog X.w) X.A (noteFrame (.ref a) X.env) _ _ _
    refine Sky.land Zc.steady hfr hf sky' fun h3 fl3 up3 => ?_
    have J3 : Inv X pins σ' H' { s' with heap := h3 } := J.landed nb fl3.1 (up.trans up3) os ag
    obtain ⟨oe3,vs3,he3,hz3,hd3⟩ := fl3.there
    have notFr : ∀ {h : Heap} {o : Obj} {vs : Array Value},h.FunFrames B (X.env :: X.outer) → h.get? a = some o → o.data = .fields vs → a ∉ frs (X.env :: X.outer) := fun {h o vs} ff e dd hm => by
      obtain ⟨_,o',e',hnf⟩ := ff.mem hm
      rw [e] at e'; cases e'
      exact hnf _ dd
    have nfr := notFr fl3.2.2.1 he3 hd3
    have nsI : sI.heap.get? a = none := by
      cases e : sI.heap.get? a with
      | none => rfl
      | some o =>
        have z := nb a o e (by rw [hs]; exact nfr)
        rw [fl3.2.1] at z
        cases z
    have S3 : Inv (X.suite a (X.pn ++ pins)) [] σ' H' { s' with heap := h3 } := suiteT J3
    refine wpAny_handleBy_cons (codeAny_handlers_test ?_) (by intro q; cases q)
    have LT : PySem.W.Looks (model X.prog X.w) h3 (typeOf (.ref a)) cls := fun A Q E s k q => wpAny_typeOf_ref (k _ _ he3) (by rw [hz3.1]; exact q)
    have LM := PySem.W.exm_one (M := model X.prog X.w) (J3.kIn) LT hb1
    have test : ∀ {Q : Value → Shared → Prop} {E : Value → Shared → Prop},Q c { s' with heap := h3 } → wpAny (model X.prog X.w) (X.A.mark (some (.ref a))) (eval (.Name x np) X.env) Q E { s' with heap := h3 } := fun {Q E} q => by
      obtain ⟨hg,hdbg,hm | ⟨hm,hv,hnn⟩⟩ := hc
      · exact ld_glob (X := X.suite a (X.pn ++ pins)) S3 hg hm q hdbg
      · exact ld_blt (X := X.suite a (X.pn ++ pins)) S3 hg hm hv q hnn hdbg
    refine test (LM.here ?_)
    cases b with
    | true =>
      refine codeAny_handlers_suite_as ?_
      refine HandSPX.lands_againZ fl3 fun h4 fl4 up4 => ?_
      obtain ⟨oe4,vs4,he4,hz4,hd4⟩ := fl4.there
      obtain ⟨CC,ecls,hy⟩ := hyes rfl
      subst ecls
      have J4 : Inv X pins σ' (upd H' a (xO a CC d)) { s' with heap := h4 } := landedT J nb fl4.1 ((up.trans up3).trans up4) os ag na nsI ⟨oe4,he4,hz4.1,hz4.2,vs4,hd4⟩
      have S4 : Inv (X.suite a (X.pn ++ pins)) [] σ' (upd H' a (xO a CC d)) { s' with heap := h4 } := suiteT J4
      refine store_ok (X := X.suite a (X.pn ++ pins)) (v := .ref a) S4 hN hi hloc rfl (fun s5 S5 => ?_) (.inr hln)
      refine wpAny_mono ((hsu a (X.pn ++ pins)).run [] s5 _ _ _ S5 (hy a na)) (fun f s6 hsp => ?_) (fun _ _ z => False.elim z)
      have end_ : ∀ {σ6 : L2.St} {H6 : Hp} {Q : Shared → Prop},Inv (X.suite a (X.pn ++ pins)) [] σ6 H6 s6 → (∀ s7,Inv X pins (σ6.set i none) H6 s7 → Q s7) →
          wpAny (model X.prog X.w) X.A (do bindName X.env n .none; unbindBehindTheSuite X.env n pos') (fun _ s7 => Q s7) X.xe s6 := fun {σ6 H6 Q} S6 hq => gone_ok (unsuiteT S6 ok) hN hi hln hq
      cases f with
      | next =>
        obtain ⟨σ6,H6,S6,q6⟩ := hsp
        exact end_ S6 fun s7 J7 => ⟨_,_,J7,q6⟩
      | brk =>
        obtain ⟨σ6,H6,S6,q6⟩ := hsp
        exact end_ S6 fun s7 J7 => ⟨_,_,J7,q6⟩
      | cont =>
        obtain ⟨σ6,H6,S6,q6⟩ := hsp
        exact end_ S6 fun s7 J7 => ⟨_,_,J7,q6⟩
      | ret u =>
        obtain ⟨v6,σ6,H6,S6,r6,q6⟩ := hsp
        exact end_ S6 fun s7 J7 => ⟨_,_,_,J7,r6,q6⟩
    | false =>
      show wpAny _ X.A (handleBy (.ref a) X.env []) _ _ _
      refine wpAny_handleBy_nil ?_
      obtain ⟨k1,k2,k3,oe,vs,T,oT,ts',he,hz,hd,h1,hr⟩ := id fl3
      unfold PySem.passOn
      refine wpAny_bind (wpAny_field he hd h1 ?_)
      rw [if_neg (show ¬ ((Value.ref T == Value.none) = true) from by simp)]
      have fin : wpAny (model X.prog X.w) X.A (setFlight (.ref a) X.env.frame) (fun _ s4 => wpAny (model X.prog X.w) X.A (throw (.ref a) : Sem Flow) (SP X pins D) X.xe s4) X.xe { s' with heap := h3 } := by
        rw [hf]
        refine HandSPX.setFlight_upZ fl3 fun h4 hh4 up4 => wpAny_throw (tk _ _ ?_)
        exact ⟨a,B,sI,pins,σ',H',cls,d,rfl,J,nb,(up.trans up3).trans up4,.inr (.inr (by rw [hs]; exact hh4)),na,os,ag,hno rfl⟩
      first
        | exact wpAny_bind (wpAny_pure (wpAny_bind fin))
        | exact wpAny_bind fin
  · cases f with
    | next =>
      obtain ⟨σ',H',J',q⟩ := hsp
      exact wpAny_execs_nil ⟨σ',H',J'.ofTry ok,q⟩
    | brk =>
      obtain ⟨σ',H',J',q⟩ := hsp
      exact ⟨σ',H',J'.ofTry ok,q⟩
    | cont =>
      obtain ⟨σ',H',J',q⟩ := hsp
      exact ⟨σ',H',J'.ofTry ok,q⟩
    | ret u =>
      obtain ⟨v,σ',H',J',r,q⟩ := hsp
      exact ⟨v,σ',H',J'.ofTry ok,r,q⟩
end
section
variable {ca : Nat → Addr} {φ φ' φ0 : List Addr} {G G' G0 H : Hp} {O T : Cs} {S : Cs} {X : Cx} {K : PySem.W.Frag} {C : Cn} {σ : L2.St} {ρ : Rho} {D : Ends} {W : WX} {pos p apos cpos tpos : Pos} {e : Expr} {ea : CE} {es : List Expr}
theorem Sd.cellAdd (s : Sd ca φ G H S) {q : Addr} {o : HO} {c : Cell} (hq : G q = some o) (hn : ∀ (i : Nat) (a : Addr),φ[i]? = some a → a ≠ q) (hc : CellOk ca G (φ ++ [q]) H q c) (hl : ¬ live c) : Sd ca (φ ++ [q]) G H (S ++ [c]) := by
  refine ⟨by simp [s.len], ?_,s.ex,fun i a c h1 h2 h3 => ?_,fun i a h => ?_,fun i a c h1 h2 => ?_⟩
  · rw [List.nodup_append]
    refine ⟨s.nd,by simp,fun a ha b hb => ?_⟩
    simp at hb
    subst hb
    obtain ⟨i,hi⟩ := List.getElem?_of_mem ha
    exact hn i a hi
  · rcases get_append_last h1 with h1 | ⟨e,rfl⟩
    · rcases get_append_last h2 with h2 | ⟨e,rfl⟩
      · exact s.off i a c h1 h2 h3
      · exact absurd h3 hl
    · rcases get_append_last h2 with h2 | ⟨e2,rfl⟩
      · have := (List.getElem?_eq_some_iff.mp h2).1; rw [← s.len] at this; omega
      · exact absurd h3 hl
  · rcases get_append_last h with h1 | ⟨e,rfl⟩
    · exact s.kn i a h1
    · exact ⟨_,s.ex _ _ hq⟩
  · rcases get_append_last h1 with h1 | ⟨e,rfl⟩
    · rcases get_append_last h2 with h2 | ⟨e,rfl⟩
      · exact (s.cell i a c h1 h2).mono ⟨pre_append φ [q],Ex.refl G⟩ rfl
      · have := (List.getElem?_eq_some_iff.mp h1).1; rw [s.len] at this; omega
    · rcases get_append_last h2 with h2 | ⟨e2,rfl⟩
      · have := (List.getElem?_eq_some_iff.mp h2).1; rw [← s.len] at this; omega
      · exact hc
theorem At.setN (t : At ca φ G H O T σ ρ) (i : Nat) : At ca φ G H O T (σ.set i none) (ρ.set i none) := by
  refine ⟨t.s,fun j w h => ?_,by simp [t.n]⟩
  by_cases e : i = j
  · subst e
    by_cases lt : i < ρ.length
    · rw [List.getElem?_set_self lt] at h
      cases h
    · rw [List.getElem?_eq_none (by simpa using lt)] at h
      cases h
  · rw [List.getElem?_set_ne e] at h
    obtain ⟨v',h1,h2⟩ := t.l j w h
    exact ⟨v',by rw [List.getElem?_set_ne e]; exact h1,h2⟩
theorem s_try {x n : Str} {c : Value} {i : Nat} {body suite : List Stmt} {b₀ : Stmt} {np pos' : Pos} {ks : List Nat} {cb cs : CB} (hs : X.stack = X.env :: X.outer) (hf : X.env.frame = some X.env.locals) (hN : X.N.Nodup) (hi : X.N[i]? = some n) (hln : X.env.kindOf n = some .local) (hc : Names X x c)
    (hks : ∀ k ∈ ks,PySem.W.exmOne X.K (.ref (ca k)) c = some true)
    (hb : ∀ (W : WX) (pn : List (Addr × Obj)) (xe : Value → Shared → Prop),Takes (X.tr pn xe) W → PassesOwn (model X.prog X.w) X.A X.env xe → PSs (X.tr pn xe) body (RBx ca C W cb))
    (hsu : ∀ (a : Addr) (pn : List (Addr × Obj)),PSs (X.suite a pn) (b₀ :: suite) (RBl ca C cs)) :
    PS X (.Try body [.ExceptHandler (some (.Name x np)) (some n) (b₀ :: suite) pos'] [] [] pos) (RS ca C (.try_ cb ks (some i) cs)) := (ps_try_asT hs hf hN hi hln hc takes0 hb hsu).imp fun D σ H => by
  rintro ⟨φ,G,O,ρ,T,t,h⟩
  refine ⟨φ,G,O,ρ,T,t, ?_⟩
  rw [denS] at h
  cases e : denB C O cb ρ T with
  | nx ρ' T' => rw [e] at h; exact h
  | rt u T' => rw [e] at h; exact h
  | bk ρ T => rw [e] at h; exact h
  | ct ρ T => rw [e] at h; exact h
  | fail => rw [e] at h; exact h
  | exc k fs ρ' T' =>
    rw [e] at h
    intro σ1 φ1 G1 H1 d f1 t1 x1
    have h : PF ca φ G O (if k ∈ ks then (match denB C O cs (ρ'.set i (some (.ref (O.length + T'.length)))) (T' ++ [.exn k fs]) with
          | .nx ρ2 T2 => .nx (ρ2.set i none) T2
          | .rt u T2 => .rt u T2
          | _ => .fail) else .fail) D := h
    by_cases hk : k ∈ ks
    · rw [if_pos hk] at h
      refine ⟨true,hks k hk,fun _ => ⟨ca k,rfl,fun a na => ?_⟩,fun z => nomatch z⟩
      have s2 := t1.s.know (o := xO a (ca k) d) na
      have F2 : Fut φ1 G1 φ1 (upd G1 a (xO a (ca k) d)) := t1.s.knowF na
      have ne : ∀ (i : Nat) (b : Addr),φ1[i]? = some b → b ≠ a := fun i b hb => by
        obtain ⟨o',h'⟩ := t1.s.kn i b hb
        exact ne_of_none h' na
      have s3 := s2.cellAdd (c := .exn k fs) upd_same ne ⟨d,upd_same,x1.mono F2.ex⟩ id
      have F3 : Fut φ1 G1 (φ1 ++ [a]) (upd G1 a (xO a (ca k) d)) := F2.trans Sd.newF
      have hn : (φ1 ++ [a])[O.length + T'.length]? = some a := by
        have hl := t1.s.len
        rw [List.length_append] at hl
        rw [← hl,List.getElem?_append_right (Nat.le_refl _)]
        simp
      have t3 : At ca (φ1 ++ [a]) (upd G1 a (xO a (ca k) d)) (upd H1 a (xO a (ca k) d)) O (T' ++ [.exn k fs]) σ1 ρ' := ⟨by rw [← List.append_assoc]; exact s3,F3.lo t1.l,t1.n⟩
      refine ⟨_,_,O,_,_,t3.set (.ref hn) i, ?_⟩
      cases e2 : denB C O cs (ρ'.set i (some (.ref (O.length + T'.length)))) (T' ++ [.exn k fs]) with
      | nx ρ2 T2 =>
        rw [e2] at h
        exact fun σ' φ' G' H' f t' => h _ φ' G' H' ((f1.trans F3).trans f) (t'.setN i)
      | rt u T2 =>
        rw [e2] at h
        exact fun v φ' G' H' f s r => h v φ' G' H' ((f1.trans F3).trans f) s r
      | bk ρ T => rw [e2] at h; exact h.elim
      | ct ρ T => rw [e2] at h; exact h.elim
      | exc => rw [e2] at h; exact h.elim
      | fail => rw [e2] at h; exact h.elim
    · rw [if_neg hk] at h
      exact h.elim
end
end Y
namespace Y
open PySem PySem.Spec PyProof.Rows L2
theorem xO_inst {P : Program} {w : World} {H : Hp} {h : Heap} {a C : Addr} {d : Option Addr} (hok : HOk P w H h) (e : H a = some (xO a C d)) (hd : d = none ∨ ∃ dx ws,d = some dx ∧ H dx = some (.xd ws)) : ∃ oe od,PySem.W.InstAt h a oe C od ∧ oe.dict = d ∧ (∀ dx,d = some dx → ∃ o,od = some o ∧ h.get? dx = some o) := by
  obtain ⟨oe,e1,e2,e3,vs,e4⟩ := xO_at hok e
  have nc : PySem.W.notCls oe := by unfold PySem.W.notCls; rw [e4] <;> rfl
  rcases hd with rfl | ⟨dx,ws,rfl,h2⟩
  · exact ⟨oe,none,⟨e1,e2,nc,by rw [e3]; trivial⟩,e3,fun dx z => nomatch z⟩
  · obtain ⟨mA,hns,hr⟩ := hok dx _ h2
    obtain ⟨od,ho,hl⟩ := lookIn_ns hns
    exact ⟨oe,some od,⟨e1,e2,nc,by rw [e3]; exact ho⟩,e3,fun dx z => by cases z; exact ⟨od,rfl,ho⟩⟩
def rIsX (K : PySem.W.Frag) : List V → Hp → VK → Prop := fun xs H Q => ∃ (a C : Addr) (d : Option Addr) (c : V) (cv : Value) (b : Bool),xs = [.ref a,c] ∧ (∀ u,RelV c u → u = cv) ∧ H a = some (xO a C d) ∧ (d = none ∨ ∃ dx ws,d = some dx ∧ H dx = some (.xd ws)) ∧ ExcC K C ∧ PySem.W.kitOne K (.ref C) cv = some b ∧ Q (.bl b) H
theorem excC_cls {K : PySem.W.Frag} {C : Addr} (c : ExcC K C) : (PySem.W.clsIn K C).isSome = true := by
  obtain ⟨cd,hc,_⟩ := PySem.W.any_some c.hd
  rw [hc]
  rfl
section
variable {X : Cx}
theorem cr_isX : CallR X (.builtin "isinstance") (rIsX X.K) := by
  intro pins s σ H xs us Q I r h
  obtain ⟨a,C,d,c,cv,b,rfl,hcv,ha,hd,cc,e,q⟩ := h
  cases r with
  | cons rx rr =>
    cases rr with
    | cons rt rr =>
      cases rr
      cases rx
      have ec := hcv _ rt
      subst ec
      obtain ⟨oe,od,J,_,_⟩ := xO_inst I.hok ha hd
      exact PySem.W.kia_one (PySem.W.kitx_exc (od := od) (excC_cls cc) cc.hg cc.hk cc.hs cc.ha cc.hn cc.ht cc.hm) I.kIn J e (fun z => nomatch z) fun tk => ⟨.bl b,H,I.kept (t' := tk) fun _ _ z => z,rfl,q⟩
end
def tXfT (K : PySem.W.Frag) (n : Str) (te : TE) : TE := fun σ H Q => te σ H fun x H1 => ∃ (a C dd : Addr) (fs : List (Str × V)) (v : V),x = .ref a ∧ H1 a = some (xO a C (some dd)) ∧ XfC K C ∧ PySem.W.findIn K (.ref C) n = some none ∧ H1 dd = some (.xd fs) ∧ fs.lookup n = some v ∧ Q v H1
theorem pe_xfT {X : Cx} {e : Expr} {te : TE} {pos : Pos} {n : Str} (he : PE X e te) (hb : attributeBase e n X.env (eval e X.env) = eval e X.env := by rfl) : PE X (.Attribute e n pos) (tXfT X.K n te) := by
  refine ⟨fun pins s σ H Q I h => ?_⟩
  refine attr_of hb (thn (he.run pins s σ H _ I h) fun u s1 hh => ?_)
  obtain ⟨x,H1,I1,rx,a,C,dd,fs,v,ex,ha,T,hno,hd,l,q⟩ := hh
  subst ex
  obtain rfl : u = Value.ref a := rx
  obtain ⟨oe,od,J,_,hod⟩ := xO_inst I1.hok ha (.inr ⟨dd,fs,rfl,hd⟩)
  obtain ⟨o,rfl,ho⟩ := hod dd rfl
  have hx : ObjOk X.prog X.w H1 s1.heap dd (.xd fs) := I1.hok dd _ hd
  obtain ⟨mA,hns,hr⟩ := hx
  obtain ⟨od',ho',hl⟩ := lookIn_ns hns
  rw [ho] at ho'
  cases ho'
  obtain ⟨u,hu,ru⟩ := RelO.some_of (v := v) (o := mA n) (by rw [← l]; exact hr n)
  exact HandSPX.exc_get I1.kIn J T.ga T.gg T.exC (PySem.W.findObj_own T.hdC hno rfl (by rw [hl,hu])) (handed_of ru) ⟨v,H1,I1.tok _,ru,q⟩
section
variable {ca : Nat → Addr} {φ φ' : List Addr} {G G' H : Hp} {O T : Cs} {X : Cx} {K : PySem.W.Frag} {C : Cn} {σ : L2.St} {ρ : Rho} {pos p p2 : Pos} {e : Expr} {ea : CE} {es : List Expr} {yes no : List Nat} {l : Bool}
theorem exn_at (s : Sd ca φ G H (O ++ T)) {i k : Nat} {v : V} {fs : List (Str × Y.D)} (r : RpU G φ v (.ref i)) (e : getC O T i = some (.exn k fs)) : ∃ a d,v = .ref a ∧ H a = some (xO a (ca k) d) ∧ (d = none ∨ ∃ dx ws,d = some dx ∧ H dx = some (.xd ws)) ∧ XF G d fs := by
  cases r with
  | ref hi =>
    obtain ⟨d,h1,h2⟩ := cell_at s hi e
    refine ⟨_,d,rfl,s.ex _ _ h1, ?_,h2⟩
    rcases h2 with ⟨_,h⟩ | ⟨dx,ws,h3,h4,_⟩
    · exact .inl h
    · exact .inr ⟨dx,ws,h3,s.ex _ _ h4⟩
theorem isexn_of {u : U} {Q : VK} (h : Pc ca rU φ G O (isexnB O T yes no u) Q) : ∃ i k fs b,u = .ref i ∧ getC O T i = some (.exn k fs) ∧ ((b = true ∧ k ∈ yes) ∨ (b = false ∧ k ∈ no)) ∧ Pc ca rU φ G O (.ok (.d (.bool b)) T) Q := by
  unfold isexnB at h
  cases u with
  | d x => exact h.elim
  | tup us => exact h.elim
  | ref i =>
    simp only at h
    cases e : getC O T i with
    | none => rw [e] at h; exact h.elim
    | some c =>
      rw [e] at h
      cases c with
      | exn k fs =>
        simp only at h
        by_cases hy : k ∈ yes
        · rw [if_pos hy] at h
          exact ⟨i,k,fs,true,rfl,e,.inl ⟨rfl,hy⟩,h⟩
        · rw [if_neg hy] at h
          by_cases hn : k ∈ no
          · rw [if_pos hn] at h
            exact ⟨i,k,fs,false,rfl,e,.inr ⟨rfl,hn⟩,h⟩
          · rw [if_neg hn] at h
            exact h.elim
      | lst => exact h.elim
      | lstU => exact h.elim
      | dct => exact h.elim
      | dctU => exact h.elim
      | dctL => exact h.elim
      | dctS => exact h.elim
      | ins => exact h.elim
      | dead => exact h.elim
theorem y_isx {x : Str} {v : V} {cv : Value} (hi : Gl X "isinstance") (hm : X.mg "isinstance" = none) (ha : PE X e (RE ca C ea)) (hx : PE X (.Name x p2) (tC v)) (hv : ∀ u,RelV v u → u = cv)
    (hy : ∀ k ∈ yes,ExcC X.K (ca k) ∧ PySem.W.kitOne X.K (.ref (ca k)) cv = some true) (hn : ∀ k ∈ no,ExcC X.K (ca k) ∧ PySem.W.kitOne X.K (.ref (ca k)) cv = some false)
    (he : starEach [e,.Name x p2] X.env = (false,eval e X.env) :: starEach [.Name x p2] X.env := by rfl) : PE X (.Call (.Name "isinstance" p) [e,.Name x p2] [] pos) (RE ca C (.bi l (.isexn yes no) (.cons ea .nil))) :=
  (pe_callB cr_isX hi hm bt_isinstance (pa_cons ha (pa_cons hx pa_nil rfl) he) (by decide) (by decide) he rfl).imp (by
    rintro σ H Q ⟨φ,G,O,ρ,T,tt,h⟩
    rw [den] at h
    simp only [denA,R.bind_bind,R.bind_ok] at h
    refine ⟨φ,G,O,ρ,T,tt,Pc.imp h.bind ?_⟩
    rintro w H1 ⟨φ1,G1,T1,u,f1,s1,r1,h1⟩
    obtain ⟨i,k,fs,b,rfl,ec,hb,h2⟩ := isexn_of h1
    obtain ⟨a,d,rfl,e1,e2,_⟩ := exn_at s1 r1 ec
    have kk : ExcC X.K (ca k) ∧ PySem.W.kitOne X.K (.ref (ca k)) cv = some b := by
      rcases hb with ⟨rfl,hk⟩ | ⟨rfl,hk⟩
      · exact hy k hk
      · exact hn k hk
    exact ⟨a,ca k,d,v,cv,b,rfl,hv,e1,e2,kk.1,kk.2,Pc.now h2 s1 (.d (.bl _))⟩)
theorem y_xfld {n : Str} {ks : List Nat} (ha : PE X e (RE ca C ea)) (hk : ∀ k ∈ ks,XfC X.K (ca k) ∧ PySem.W.findIn X.K (.ref (ca k)) n = some none) (hb : attributeBase e n X.env (eval e X.env) = eval e X.env := by rfl) : PE X (.Attribute e n pos) (RE ca C (.bi l (.xfld ks n) (.cons ea .nil))) :=
  (pe_xfT ha hb).imp (by
    rintro σ H Q ⟨φ,G,O,ρ,T,tt,h⟩
    rw [den] at h
    simp only [denA,R.bind_bind,R.bind_ok] at h
    refine ⟨φ,G,O,ρ,T,tt,Pc.imp h.bind ?_⟩
    rintro w H1 ⟨φ1,G1,T1,u,f1,s1,r1,h1⟩
    have h1 : Pc ca rU φ1 G1 O (xfldB O T1 ks n u) Q := h1
    unfold xfldB at h1
    cases u with
    | d x => exact h1.elim
    | tup us => exact h1.elim
    | ref i =>
      simp only at h1
      cases ec : getC O T1 i with
      | none => rw [ec] at h1; exact h1.elim
      | some c =>
        rw [ec] at h1
        cases c with
        | exn k fs =>
          simp only at h1
          by_cases hin : k ∈ ks
          · rw [if_pos hin] at h1
            obtain ⟨a,d,rfl,e1,e2,e3⟩ := exn_at s1 r1 ec
            cases el : fs.lookup n with
            | none => rw [el] at h1; exact h1.elim
            | some v =>
              rw [el] at h1
              rcases e3 with ⟨rfl,_⟩ | ⟨dx,ws,rfl,e4,e5⟩
              · cases el
              · have e6 : (fs.map fun p => ((p.1,U.d p.2) : Str × U)).lookup n = some (.d v) := by
                  clear e5 h1 ec
                  induction fs with
                  | nil => cases el
                  | cons p fs ih =>
                    obtain ⟨g,z⟩ := p
                    simp only [List.map_cons,List.lookup_cons] at el ⊢
                    cases q : n == g with
                    | true => rw [q] at el; cases el; rfl
                    | false => rw [q] at el; exact ih el
                rcases e5.look n with ⟨k1,_⟩ | ⟨u',v',k1,k2,k3⟩
                · rw [k1] at e6
                  cases e6
                · rw [k1] at e6
                  cases e6
                  cases k3 with
                  | d k3 =>
                    exact ⟨a,ca k,dx,ws,v',rfl,e1,(hk k hin).1,(hk k hin).2,s1.ex _ _ e4,k2,Pc.now h1 s1 (.d k3)⟩
          · rw [if_neg hin] at h1
            exact h1.elim
        | lst => exact h1.elim
        | lstU => exact h1.elim
        | dct => exact h1.elim
        | dctU => exact h1.elim
        | dctL => exact h1.elim
        | dctS => exact h1.elim
        | ins => exact h1.elim
        | dead => exact h1.elim)
end
structure Cgh (X : Cx) (N : List Str) (sc : Scope) (vm tm : List Bool) : Prop where
  hN : X.N = N
  hsc : X.env.scope = sc
  nd : N.Nodup
  hu : X.A.units + 65 < cLine
  vis : ∀ (i : Nat) (x : Str),vm[i]? = some true → N[i]? = some x → Vis sc x ∧ (x == ("__debug__" : Str)) = false ∧ (x == ("__classdict__" : Str)) = false
  tgt : ∀ (i : Nat) (x : Str),tm[i]? = some true → N[i]? = some x → Loc sc x ∧ (X.fn x = true ∨ sc.names.lookup x = some .local)
section
variable {ca : Nat → Addr} {X : Cx} {C : Cn} {W : WX} {pos p apos cpos tpos : Pos} {a b e tg : Expr} {ea eb : CE} {es : List Expr} {N : List Str} {sc : Scope} {vm tm : List Bool} {n : Nat} {x y : Str}
theorem Cg.hot (g : Cg X N sc vm tm n) (a : Addr) (pn : List (Addr × Obj)) : Cgh (X.suite a pn) N sc vm tm where
  hN := g.hN
  hsc := g.hsc
  nd := g.nd
  hu := g.hu
  vis := g.vis
  tgt := g.tgt
theorem Cg.tr (g : Cg X N sc vm tm n) (pn : List (Addr × Obj)) (xe : Value → Shared → Prop) : Cg (X.tr pn xe).nox N sc vm tm n where
  hN := g.hN
  hsc := g.hsc
  nd := g.nd
  calm := g.calm
  room := g.room
  never := fun _ _ h => h
  vis := g.vis
  tgt := g.tgt
theorem glh_of (g : Cgh X N sc vm tm) (h : sc.names.lookup x = some .globalImplicit) : Gl X x := by
  show X.env.scope.names.lookup x = _
  rw [g.hsc]
  exact h
theorem h_v (g : Cgh X N sc vm tm) (i : Nat) (hN : N[i]? = some x := by rfl) (hv : vm[i]? = some true := by rfl) : PE X (.Name x pos) (RE ca C (.v i)) :=
  have h := g.vis i x hv hN
  pe_v (g.hN ▸ hN) (g.hsc ▸ h.1) h.2.1 h.2.2
theorem h_nm (g : Cgh X N sc vm tm) (i : Nat) (hN : N[i]? = some x := by rfl) (hv : tm[i]? = some true := by rfl) : PG X (.Name x pos) (RG ca (.nm i)) :=
  have h := g.tgt i x hv hN
  pg_nm (g.hN ▸ g.nd) (g.hN ▸ hN) (g.hsc ▸ h.1) (g.hsc ▸ h.2)
theorem h_cm (g : Cgh X N sc vm tm) {o : COp} (ha : PE X a (RE ca C ea)) (hb : PE X b (RE ca C eb)) (hm : behindInMarks (copS o) b = false := by rfl) : PE X (.Compare a [copS o] [b] pos) (RE ca C (.cmp o ea eb)) := pe_cm (op_cmp o g.hu) ha hb hm
theorem k_cls {c : Addr} (hg : Gl X x) (hm : X.mg x = some (.ref c)) (hd : (x == ("__debug__" : Str)) = false := by decide) : PE X (.Name x pos) (tC (.ref c)) := pe_glob hg hm rfl hd
theorem bt_ValueError : bootBuiltins "ValueError" = some (.type "ValueError") := by decide +kernel
theorem k_VE (hg : Gl X "ValueError") (hm : X.mg "ValueError" = none) : PE X (.Name "ValueError" pos) (tC (.ty "ValueError")) := pe_bltn hg hm bt_ValueError rfl (by decide) (by decide)
theorem rel_ref {c : Addr} : ∀ u,RelV (.ref c) u → u = .ref c := fun _ h => h
theorem rel_ty {s : String} : ∀ u,RelV (.ty s) u → u = .type s := fun _ h => h
theorem all_0 {P : Nat → Prop} : ∀ k ∈ ([] : List Nat),P k := fun _ h => (List.not_mem_nil h).elim
theorem all_C {P : Nat → Prop} {a : Nat} {l : List Nat} (h : P a) (hr : ∀ k ∈ l,P k) : ∀ k ∈ a :: l,P k := fun k hk => by
  rcases List.mem_cons.mp hk with rfl | hk
  · exact h
  · exact hr k hk
theorem kit_same {K : PySem.W.Frag} {t : Value} : PySem.W.kitOne K t t = some true := by
  unfold PySem.W.kitOne
  rw [if_pos (beq_self_eq_true t)]
theorem kit_cls' {K : PySem.W.Frag} {t : Value} {c : Addr} {v : Bool} (h : PySem.W.subIn K t (.ref c) = some v) (hd : PySem.W.hasDictIn K c = true) (ht : PySem.W.typeIn K (.ref c) = some (.type "type")) : PySem.W.kitCls K t (.ref c) = some v := by
  obtain ⟨cd,hc,_⟩ := PySem.W.any_some hd
  have e2 : ((PySem.W.clsIn K c).isSome && PySem.W.typeIn K (.ref c) == some (.type "type")) = true := by rw [hc,ht] <;> rfl
  show (if ((PySem.W.clsIn K c).isSome && PySem.W.typeIn K (.ref c) == some (.type "type")) = true then PySem.W.subIn K t (.ref c) else none) = some v
  rw [if_pos e2]
  exact h
theorem kit_rf {K : PySem.W.Frag} {a c : Addr} (h : PySem.W.subIn K (.ref a) (.ref c) = some false) (hs : PySem.W.subIn K (.ref a) (.ref a) = some true) (hd : PySem.W.hasDictIn K c = true) (ht : PySem.W.typeIn K (.ref c) = some (.type "type")) : PySem.W.kitOne K (.ref a) (.ref c) = some false := by
  unfold PySem.W.kitOne
  split
  · rename_i e
    have e := eq_of_beq e
    rw [← e,hs] at h
    cases h
  · exact kit_cls' h hd ht
theorem kit_vt {K : PySem.W.Frag} {a : Addr} (h : PySem.W.subIn K (.ref a) (.type "ValueError") = some true) : PySem.W.kitOne K (.ref a) (.type "ValueError") = some true := by
  unfold PySem.W.kitOne
  split
  · rfl
  · show (if PySem.W.kitMeta "ValueError" = true then PySem.W.subIn K (.ref a) (.type "ValueError") else none) = _
    rw [if_pos (by decide +kernel)]
    exact h
theorem t_try (g : Cg X N sc vm tm n) {body suite : List Stmt} {b₀ : Stmt} {np pos' : Pos} {ks : List Nat} {cb cs : CB} {c : Addr} (hs : X.stack = X.env :: X.outer) (hf : X.env.frame = some X.env.locals) (i : Nat) (hm : X.mg x = some (.ref c))
    (hks : ∀ k ∈ ks,PySem.W.exmOne X.K (.ref (ca k)) (.ref c) = some true)
    (hb : ∀ (W : WX) (pn : List (Addr × Obj)) (xe : Value → Shared → Prop),Takes (X.tr pn xe) W → PassesOwn (model X.prog X.w) X.A X.env xe → PSs (X.tr pn xe) body (RBx ca C W cb))
    (hsu : ∀ (a : Addr) (pn : List (Addr × Obj)),PSs (X.suite a pn) (b₀ :: suite) (RBl ca C cs)) (hNi : N[i]? = some y := by rfl) (hl : sc.names.lookup y = some .local := by rfl) (hg : sc.names.lookup x = some .globalImplicit := by rfl) (hd : (x == ("__debug__" : Str)) = false := by decide) :
    PS X (.Try body [.ExceptHandler (some (.Name x np)) (some y) (b₀ :: suite) pos'] [] [] pos) (RS ca C (.try_ cb ks (some i) cs)) :=
  s_try hs hf (g.hN ▸ g.nd) (g.hN ▸ hNi) (by show X.env.scope.names.lookup y = _; rw [g.hsc]; exact hl) ⟨gl_of g hg,hd,.inl hm⟩ hks hb hsu
end
section
variable {P : Program} {w : World} {K : PySem.W.Frag} {mg : Str → Option Value} {base : Heap} {ca : Nat → Addr}
theorem def_okT {x qual : Str} {st : Stmt} {f : Addr} {fd : FuncData} {N ps : List Str} {sc : Scope} {vm : List Bool} {G : Pg} {j np ns n : Nat} {b : CB} (F : Fun K x qual st f fd) (hsc : defScope st = sc) (S : FnScope N ps sc) (hG : G.defs j = some ⟨np,ns,b⟩) (hps : ps.length = np) (hns : N.length = ns)
    (hn : decide N.Nodup = true) (hv : visAll N sc vm = true) (ht : tgtAll N sc vm = true)
    (hb : ∀ X : Cx,X.prog = P → X.w = w → X.K = K → X.mg = mg → X.base = base → X.stack = X.env :: X.outer → X.env.frame = some X.env.locals → Cg X N sc vm vm (2 * n + 2) → PSs X (defBody st) (RBl ca (cn G n) b)) : FnOk P w K mg base CX0 (2 * n + 3) f fd ps (spR ca (run G (n + 1)) j np) := by
  subst hsc
  refine F.ok S (fun vs H Q E h => ?_) (fun cdv A outer s H vs Q E hr h => ⟨_,hb _ rfl rfl rfl rfl rfl rfl rfl (Cg.ofDef hn hv ht hr), ?_⟩)
  · obtain ⟨φ,G0,O,T,us,hl,s,r,q⟩ := h
    rw [r.length,hl,hps]
  · obtain ⟨φ,G0,O,T,us,hl,s,r,q⟩ := h
    rw [run,hG] at q
    have q : Pc ca rU φ G0 O (if us.length = np then match denB (cn G n) O b (us.map some ++ List.replicate (ns - us.length) none) T with
    | .nx _ T' => .ok (.d .none) T'
    | .rt u T' => .ok u T'
    | .exc c fs _ T' => .exc c fs T'
    | _ => .fail else .fail) Q := q
    rw [if_pos hl] at q
    refine ⟨φ,G0,O,us.map some ++ List.replicate (ns - us.length) none,T,⟨s, ?_, ?_⟩, ?_⟩
    · show Lo G0 φ (vs.map some ++ List.replicate (N.length - vs.length) none) _
      rw [hns,r.length]
      exact start_lo _ r
    · show (vs.map some ++ List.replicate (N.length - vs.length) none).length = _
      simp [hns,r.length]
    · cases e : denB (cn G n) O b (us.map some ++ List.replicate (ns - us.length) none) T with
      | nx ρ T' =>
        rw [e] at q
        exact fun σ φ' G' H' f t => q .non φ' G' H' f t.s (.d .non)
      | rt u T' =>
        rw [e] at q
        exact fun v φ' G' H' f s r => q v φ' G' H' f s r
      | bk ρ T' => rw [e] at q; exact q.elim
      | ct ρ T' => rw [e] at q; exact q.elim
      | exc => rw [e] at q; exact q.elim
      | fail => rw [e] at q; exact q.elim
end
end Y
namespace Y
open PySem PySem.Spec PyProof.Rows L2
section
variable {X : Cx} {pos p p1 p2 : Pos} {e : Expr} {es : List Expr} {ta : TA}
theorem pe_cinit {x0 : Str} {C0 : Addr} {mc : Value} {pl : Sem Bool} (hg : Gl X x0) (hm : X.mg x0 = some (.ref C0)) (rd : PySem.W.readsIn X.K C0 mc = true) (ga : PySem.W.specialIn X.K (.ref C0) "__getattribute__" = some (some (.builtin "type.__getattribute__")))
    (vV : PySem.W.findCls X.K (.ref C0) mc "__init__" = some (.val (.builtin "ValueError.__init__"))) (ha : PA X (e :: es) ta) (hdb : (x0 == ("__debug__" : Str)) = false := by decide)
    (hc : eval (.Call (.Attribute (.Name x0 p1) "__init__" p2) (e :: es) [] pos) X.env = (do
      let ov ← eval (.Name x0 p1) X.env
      standAt p2.atName
      let (f,first) ← holding [ov] (getMethod ov "__init__" pl)
      callWith pos f first (backTo pos (starEach (e :: es) X.env)) (backToKw pos (keywordEach [] X.env))) := by rfl)
    (he : starEach (e :: es) X.env = (false,eval e X.env) :: starEach es X.env := by rfl) (hpl : (backTo pos (starEach es X.env)).any (·.1) = false := by rfl) :
    PE X (.Call (.Attribute (.Name x0 p1) "__init__" p2) (e :: es) [] pos) (tVeI X.K ta) := by
  refine ⟨fun pins s σ H Q I h => ?_⟩
  refine PySem.W.methodCall_KW (ld_glob I hg hm ?_ hdb) hc
  refine PySem.W.method_cls I.kIn ga (PySem.W.cls_value I.kIn rd vV rfl ?_)
  show wpAny _ _ (callWith pos (Value.builtin "ValueError.__init__") [] (backTo pos (starEach (e :: es) X.env)) []) _ _ _
  refine PyProof.Rows.callWith_method1 (thn (ha.run pos pins _ σ H _ (I.tok _) h) fun us s1 ⟨vs,H1,I1,r1,a,C,ws,ev,hl,T,ea,q⟩ => ?_) he hpl
  subst ev
  cases r1 with
  | @cons _ u0 _ ur ra rw' =>
    obtain rfl : u0 = Value.ref a := ra
    have hlen : ur.length ≤ sizeLine := by
      rw [← Paired.length rw',sizeLine_eq]
      omega
    exact oinit_ok T I1 ea hlen fun s' J => ⟨.non,H1,J,rfl,q⟩
end
def spI (K : PySem.W.Frag) (C : Addr) (ns : List Str) : Sp := fun vs H Q _ => ∃ (a : Addr) (ys : List V),vs = .ref a :: ys ∧ ys.length = ns.length ∧ H a = some (exo a C none) ∧
  ∀ dx,H dx = none → dx ≠ a → Q .non (upd (upd H dx (exd dx (ns.zip ys).reverse)) a (exo a C (some dx)))
section
variable {P : Program} {w : World} {K : PySem.W.Frag} {mg : Str → Option Value} {base : Heap}
def tI2 (K : PySem.W.Frag) (m f g : Str) : TS := tSeq (tDrop (tVeI K (tCons (tVar 0) (tCons (tC (.str m)) tNil)))) (tSeq (tOst K f (tVar 0) (tVar 1)) (tSeq (tOst K g (tVar 0) (tVar 2)) tNext))
theorem ini_ok2 {x qual m f1 f2 a0 a1 a2 : Str} {st : Stmt} {f C : Addr} {fd : FuncData} {sc : Scope} (F : Fun K x qual st f fd) (hsc : defScope st = sc) (S : FnScope [a0,a1,a2] [a0,a1,a2] sc) (T : OexC K C) (hf : PySem.W.findIn K (.ref C) f1 = some none) (hg : PySem.W.findIn K (.ref C) f2 = some none)
    (hb : ∀ X : Cx,X.prog = P → X.w = w → X.K = K → X.mg = mg → X.base = base → X.N = [a0,a1,a2] → X.env.scope = sc → PSs X (defBody st) (tI2 X.K m f1 f2)) : FnOk P w K mg base CX0 1 f fd [a0,a1,a2] (spI K C [f1,f2]) := by
  subst hsc
  refine F.ok S (fun vs H Q E h => ?_) (fun cdv A outer s H vs Q E hr h => ⟨_,hb _ rfl rfl rfl rfl rfl rfl rfl, ?_⟩)
  · obtain ⟨a,ys,rfl,hl,_⟩ := h
    simp [hl]
  · obtain ⟨a,ys,rfl,hl,ha,q⟩ := h
    match ys,hl with
    | [y,z],_ =>
      refine ⟨_,rfl,a,C,[.str m],rfl,by simp,T,ha, ?_⟩
      refine ⟨y,rfl,_,rfl,a,C,rfl,T,hf,.inl ⟨ha,fun dx h1 h2 => ?_⟩⟩
      refine ⟨z,rfl,_,rfl,a,C,rfl,T,hg,.inr ⟨dx,[(f1,y)],upd_same,by rw [upd_ne h2,upd_same],by simp, ?_⟩⟩
      have e : upd (upd (upd H dx (exd dx [(f1,y)])) a (exo a C (some dx))) dx (exd dx [(f2,z),(f1,y)]) = upd (upd H dx (exd dx [(f2,z),(f1,y)])) a (exo a C (some dx)) := by
        funext b
        by_cases h3 : b = dx
        · subst h3
          rw [upd_same,upd_ne h2,upd_same]
        · rw [upd_ne h3]
          by_cases h4 : b = a
          · subst h4
            rw [upd_same,upd_same]
          · rw [upd_ne h4,upd_ne h3,upd_ne h4,upd_ne h3]
      show Q .non (upd (upd (upd H dx (exd dx [(f1,y)])) a (exo a C (some dx))) dx (exd dx [(f2,z),(f1,y)]))
      rw [e]
      exact q dx h1 h2
end
structure IniX (P : Program) (w : World) (K : PySem.W.Frag) (mg : Str → Option Value) (base : Heap) (ca : Nat → Addr) (c : Nat) (x : Str) (ns : List Str) : Prop where
  ex : ∃ (fI : Addr) (fd : FuncData) (ps : List Str),OexC K (ca c) ∧ PySem.W.findIn K (.ref (ca c)) "__init__" = some (some (.ref fI)) ∧ PySem.W.typeIn K (.ref fI) = some (.type "function") ∧
    FnOk P w K mg base CX0 1 fI fd ps (spI K (ca c) ns) ∧ Binds K fd ps [] ∧ mg x = some (.ref (ca c))
theorem rpF_zip {G : Hp} : ∀ (ns : List Str) {vs : List V} {ds : List Y.D},Rps G vs ds → RpF G [] (ns.zip vs) ((ns.zip ds).map fun p => (p.1,U.d p.2))
  | [],_,_,_ => .nil
  | n :: ns,_,_,.nil => .nil
  | n :: ns,_,_,.cons h t => .cons (.d h) (rpF_zip ns t)
theorem rpF_app {G : Hp} : ∀ {a b : List (Str × V)} {c d : List (Str × U)},RpF G [] a c → RpF G [] b d → RpF G [] (a ++ b) (c ++ d)
  | _,_,_,_,.nil,h => h
  | _,_,_,_,.cons h t,q => .cons h (rpF_app t q)
theorem rpF_rev {G : Hp} : ∀ {a : List (Str × V)} {c : List (Str × U)},RpF G [] a c → RpF G [] a.reverse c.reverse
  | _,_,.nil => .nil
  | _,_,.cons (k := k) (v := v) (u := u) (ws := ws) (fs := fs) h t => by
    rw [List.reverse_cons,List.reverse_cons]
    exact rpF_app (rpF_rev t) (.cons h .nil)
section
variable {ca : Nat → Addr} {X : Cx} {C : Cn} {W : WX} {pos p apos : Pos} {e : Expr} {as : CA} {es : List Expr} {c k n : Nat} {x : Str} {ns : List Str}
theorem x_raiseI (hc : X.calm = true) (tk : Takes X W) (F : IniX X.prog X.w X.K X.mg X.base ca c x ns) (hr : Room 2 X.A) (hg : Gl X x) (hns : ns ≠ []) (hnl : ns.length ≤ 100) (ha : PA X.nox (e :: es) (RA ca C as))
    (hdb : (x == ("__debug__" : Str)) = false := by decide) (he : starEach (e :: es) X.env = (false,eval e X.env) :: starEach es X.env := by rfl) (hpl : (backTo apos (starEach es X.env)).any (·.1) = false := by rfl) :
    PS X (.Raise (some (.Call (.Name x p) (e :: es) [] apos)) none pos) (RSx ca C W (.raise c ns as)) := by
  obtain ⟨fI,fd,ps,T,iC,tI,F1,hb,hm⟩ := F.ex
  refine (ps_raise hc tk (pmk_oex (dvs := []) T iC tI F1 hr hb .nil pass0 hg hm ha.nox hdb he hpl)).imp fun D σ H => ?_
  rintro ⟨φ,G,O,ρ,T,t,h⟩
  rw [denS] at h
  refine ⟨φ,G,O,ρ,T,t, ?_⟩
  cases ea : denA C O ρ as T with
  | exc => rw [ea] at h; exact h
  | fail => rw [ea] at h; exact h
  | ok us T1 =>
    rw [ea] at h
    simp only at h
    intro vs φ1 G1 H1 f1 s1 r1
    have r1 : RpUs G1 φ1 vs us := r1
    cases ed : allD us with
    | none => rw [ed] at h; exact h.elim
    | some ds =>
      rw [ed] at h
      simp only at h
      by_cases hl : ds.length = ns.length
      · rw [if_pos hl] at h
        have hds := r1.down ed
        have hvl : vs.length = ns.length := by rw [r1.length,allD_of ed,List.length_map,hl]
        refine ⟨by omega,fun a na => ⟨a,vs ++ [],rfl,by simpa using hvl,upd_same,fun dx h1 h2 => ⟨rfl,dx,(ns.zip vs).reverse,upd_same, ?_, ?_, ?_⟩⟩⟩
        · rw [List.append_nil,upd_ne h2,upd_same]
        · rw [upd_ne h2] at h1
          exact h1
        · have h1' : H1 dx = none := by rw [upd_ne h2] at h1; exact h1
          rw [List.append_nil]
          have eH : upd (del (upd (upd (upd H1 a (exo a (ca c) none)) dx (exd dx (ns.zip vs).reverse)) a (exo a (ca c) (some dx))) a) dx (.xd (ns.zip vs).reverse) = upd H1 dx (.xd (ns.zip vs).reverse) := by
            funext b
            by_cases q1 : b = dx
            · subst q1
              rw [upd_same,upd_same]
            · rw [upd_ne q1,upd_ne q1]
              by_cases q2 : b = a
              · subst q2
                rw [del_same,na]
              · rw [del_ne q2,upd_ne q2,upd_ne q1,upd_ne q2]
          rw [eH]
          refine h σ φ1 (upd G1 dx (.xd (ns.zip vs).reverse)) _ (some dx) (f1.trans (s1.knowF h1')) ⟨s1.know h1',(f1.trans (s1.knowF h1')).lo t.l,t.n⟩ (.inr ⟨dx,_,rfl,upd_same, ?_⟩)
          rw [List.map_reverse]
          exact rpF_rev (rpF_zip ns (Rps.mono (s1.knowF h1').ex _ _ hds))
      · rw [if_neg hl] at h
        exact h.elim
end
end Y
namespace Y
open PySem
namespace S
def Wpx (r : F) (nx bk ct : Rho → Cs → Prop) (rt : U → Cs → Prop) (ex : Nat → List (Str × D) → Cs → Prop) : Prop := match r with
  | .exc c fs _ T => ex c fs T
  | r => Wp r nx bk ct rt
def Gx (r : R U) (P : U → Cs → Prop) (ex : Nat → List (Str × D) → Cs → Prop) : Prop := match r with
  | .ok u T => P u T
  | .exc c fs T => ex c fs T
  | .fail => False
section
variable {C : Cn} {O T T' : Cs} {ρ : Rho} {nx bk ct : Rho → Cs → Prop} {rt : U → Cs → Prop} {ex : Nat → List (Str × D) → Cs → Prop} {b : CB} {u : U}
theorem xt_st {s : CS} (h : Wp (denS C O s ρ T) (fun ρ T => Wpx (denB C O b ρ T) nx bk ct rt ex) bk ct rt) : Wpx (denB C O (.cons s b) ρ T) nx bk ct rt ex := by
  rw [denB]
  cases e : denS C O s ρ T with
  | nx ρ' T' => rw [e] at h; exact h
  | rt u T' => rw [e] at h; exact h
  | bk ρ T => rw [e] at h; exact h
  | ct ρ T => rw [e] at h; exact h
  | exc => rw [e] at h; exact h.elim
  | fail => rw [e] at h; exact h.elim
theorem xt_nil (h : nx ρ T) : Wpx (denB C O .nil ρ T) nx bk ct rt ex := by
  rw [denB]
  exact h
theorem xt_asg {k : Nat} {e : CE} (he : den C O ρ e T = .ok u T') (h : Wpx (denB C O b (ρ.set k (some u)) T') nx bk ct rt ex) : Wpx (denB C O (.cons (.asg (.nm k) e) b) ρ T) nx bk ct rt ex :=
  xt_st (by rw [denS_asg,he,F.of_ok,asgT_nm]; exact h)
theorem xt_ret {e : CE} (he : den C O ρ e T = .ok u T') (h : rt u T') : Wpx (denB C O (.cons (.ret e) b) ρ T) nx bk ct rt ex :=
  xt_st (by rw [denS_ret,he,F.of_ok]; exact h)
theorem xt_ite {t : CE} {a c : CB} (v : Bool) (he : den C O ρ t T = .ok (.d (.bool v)) T') (h : Wpx (denB C O (if v = true then a else c) ρ T') (fun ρ T => Wpx (denB C O b ρ T) nx bk ct rt ex) bk ct rt ex) : Wpx (denB C O (.cons (.ite t a c) b) ρ T) nx bk ct rt ex := by
  have e : denS C O (.ite t a c) ρ T = denB C O (if v = true then a else c) ρ T' := by
    rw [denS_ite,he,F.of_ok]
    cases v <;> rfl
  rw [denB,e]
  cases e2 : denB C O (if v = true then a else c) ρ T' with
  | nx ρ' T' => rw [e2] at h; exact h
  | rt u T' => rw [e2] at h; exact h
  | bk ρ T => rw [e2] at h; exact h
  | ct ρ T => rw [e2] at h; exact h
  | exc => rw [e2] at h; exact h
  | fail => rw [e2] at h; exact h.elim
theorem xt_raise {c : Nat} {ns : List Str} {as : CA} {ds : List D} (ha : denA C O ρ as T = .ok (ds.map .d) T') (hl : ds.length = ns.length) (h : ex c (ns.zip ds).reverse T') : Wpx (denB C O (.cons (.raise c ns as) b) ρ T) nx bk ct rt ex := by
  rw [denB,denS,ha]
  simp only [allD_map,if_pos hl]
  exact h
theorem xt_for {g : Tg} {it : IT} {c : CB} (its : Its) (T0 : Cs) (I : Nat → Rho → Cs → Prop) (e : denI C O ρ it T = .ok its T0) (h0 : I 0 ρ T0) (hw : ∀ i ρ T,I i ρ T → sameW O its.t T its.w = true)
    (h : ∀ i u,its.us[i]? = some u → ∀ ρ T,I i ρ T → ∃ ρ1,asgT O T g u ρ = some ρ1 ∧ Wpx (denB C O c ρ1 T) (I (i + 1)) (fun ρ T => Wpx (denB C O b ρ T) nx bk ct rt ex) (I (i + 1)) rt ex) (hx : ∀ ρ T,I its.us.length ρ T → Wpx (denB C O b ρ T) nx bk ct rt ex) : Wpx (denB C O (.cons (.for_ g it c) b) ρ T) nx bk ct rt ex := by
  rw [denB]
  suffices k : Wpx (denS C O (.for_ g it c) ρ T) (fun ρ T => Wpx (denB C O b ρ T) nx bk ct rt ex) bk ct rt ex by
    cases e2 : denS C O (.for_ g it c) ρ T with
    | nx ρ' T' => rw [e2] at k; exact k
    | rt u T' => rw [e2] at k; exact k
    | bk ρ T => rw [e2] at k; exact k
    | ct ρ T => rw [e2] at k; exact k
    | exc => rw [e2] at k; exact k
    | fail => rw [e2] at k; exact k.elim
  rw [denS,e]
  simp only
  suffices k : ∀ (us : List U) (i : Nat) (ρ : Rho) (T : Cs),its.us.drop i = us → i ≤ its.us.length → I i ρ T → Wpx (loopF (fun u ρ T => match asgT O T g u ρ with
        | some ρ' => denB C O c ρ' T
        | none => .fail) (fun T' => sameW O its.t T' its.w) us ρ T) (fun ρ T => Wpx (denB C O b ρ T) nx bk ct rt ex) bk ct rt ex from k its.us 0 ρ T0 rfl (Nat.zero_le _) h0
  intro us
  induction us with
  | nil =>
    intro i ρ T hd hi hI
    have : its.us.length ≤ i := List.drop_eq_nil_iff.mp hd
    have e : i = its.us.length := by omega
    subst e
    rw [loopF,if_pos (hw _ _ _ hI)]
    exact hx _ _ hI
  | cons u us ih =>
    intro i ρ T hd hi hI
    have hlt : i < its.us.length := by
      rcases Nat.lt_or_ge i its.us.length with h | h
      · exact h
      · rw [List.drop_eq_nil_of_le h] at hd; cases hd
    have hu : its.us[i]? = some u := by
      rw [List.drop_eq_getElem_cons hlt] at hd
      rw [List.getElem?_eq_getElem hlt]
      cases hd; rfl
    have hd' : its.us.drop (i + 1) = us := by rw [List.drop_eq_getElem_cons hlt] at hd; cases hd; rfl
    obtain ⟨ρ1,e1,e2⟩ := h i u hu ρ T hI
    rw [loopF_c _ _ _ _ _ _ (hw _ _ _ hI)]
    simp only [e1]
    cases e3 : denB C O c ρ1 T with
    | nx ρ' T' => rw [e3] at e2; exact ih (i + 1) ρ' T' hd' hlt e2
    | ct ρ' T' => rw [e3] at e2; exact ih (i + 1) ρ' T' hd' hlt e2
    | bk ρ' T' => rw [e3] at e2; exact e2
    | rt u T' => rw [e3] at e2; exact e2
    | exc => rw [e3] at e2; exact e2
    | fail => rw [e3] at e2; exact e2.elim
theorem run_wx {G : Pg} {n j np ns : Nat} {b : CB} {us : List U} {P : U → Cs → Prop} (hG : G.defs j = some ⟨np,ns,b⟩) (hl : us.length = np) (h : Wpx (denB (cn G n) O b (us.map some ++ List.replicate (ns - us.length) none) T) (fun _ T' => P (.d .none) T') (fun _ _ => False) (fun _ _ => False) P ex) : Gx (Y.run G (n + 1) O j us T) P ex := by
  rw [run_S hG,bodyRun_eq hl]
  cases e : denB (cn G n) O b (us.map some ++ List.replicate (ns - us.length) none) T with
  | nx ρ T' => rw [e] at h; exact h
  | rt u T' => rw [e] at h; exact h
  | bk ρ T' => rw [e] at h; exact h.elim
  | ct ρ T' => rw [e] at h; exact h.elim
  | exc => rw [e] at h; exact h
  | fail => rw [e] at h; exact h.elim
theorem callP_x {f : Nat} {us : List U} {c : Nat} {fs : List (Str × D)} (h : C.call (O ++ T) f us [] = .exc c fs T') : callP C O f us T = .exc c fs T := by
  unfold callP
  rw [h]
theorem xcall_ex {g : Option Nat} {f : Nat} {as : CA} {us : List U} {c : Nat} {fs : List (Str × D)} (ha : denA C O ρ as T = .ok us T) (hc : callP C O f us T = .exc c fs T) : denB C O (.cons (.xcall g false f as) .nil) ρ T = .exc c fs ρ T := by
  rw [denB,denS,ha]
  simp only [Bool.false_eq_true,if_false,hc]
theorem st_tryX {bd s : CB} {ks : List Nat} {i k : Nat} {fs : List (Str × D)} {ρ' : Rho} (hb : denB C O bd ρ T = .exc k fs ρ' T') (hk : k ∈ ks)
    (h : Wp (denB C O s (ρ'.set i (some (.ref (O.length + T'.length)))) (T' ++ [.exn k fs])) (fun ρ2 T2 => Wp (denB C O b (ρ2.set i none) T2) nx bk ct rt) (fun _ _ => False) (fun _ _ => False) rt) : Wp (denB C O (.cons (.try_ bd ks (some i) s) b) ρ T) nx bk ct rt := by
  rw [denB,denS,hb]
  simp only [if_pos hk]
  cases e : denB C O s (ρ'.set i (some (.ref (O.length + T'.length)))) (T' ++ [.exn k fs]) with
  | nx ρ2 T2 => rw [e] at h; exact h
  | rt u T2 => rw [e] at h; exact h
  | bk => rw [e] at h; exact h.elim
  | ct => rw [e] at h; exact h.elim
  | exc => rw [e] at h; exact h.elim
  | fail => rw [e] at h; exact h.elim
@[simp] theorem biU_isexn (l : Bool) (yes no : List Nat) (us : List U) : biU O l (.isexn yes no) us T = one us (isexnB O T yes no) := rfl
@[simp] theorem biU_xfld (l : Bool) (ks : List Nat) (f : Str) (us : List U) : biU O l (.xfld ks f) us T = one us (xfldB O T ks f) := rfl
theorem isexn_t {i k : Nat} {fs : List (Str × D)} {yes no : List Nat} (h : getC O T i = some (.exn k fs)) (hk : k ∈ yes) : isexnB O T yes no (.ref i) = .ok (.d (.bool true)) T := by
  unfold isexnB
  simp only [h,if_pos hk]
theorem isexn_f {i k : Nat} {fs : List (Str × D)} {yes no : List Nat} (h : getC O T i = some (.exn k fs)) (hy : k ∉ yes) (hk : k ∈ no) : isexnB O T yes no (.ref i) = .ok (.d (.bool false)) T := by
  unfold isexnB
  simp only [h,if_neg hy,if_pos hk]
theorem xfld_ok {i k : Nat} {fs : List (Str × D)} {ks : List Nat} {f : Str} {v : D} (h : getC O T i = some (.exn k fs)) (hk : k ∈ ks) (hf : fs.lookup f = some v) : xfldB O T ks f (.ref i) = .ok (.d v) T := by
  unfold xfldB
  simp only [h,if_pos hk,hf]
end
end S
end Y
namespace Y
open PySem PySem.Spec L2 PyProof.Rows RT
section
variable {prog : Program} {w : World} {A : Around} {E : Value → Shared → Prop} {s : Shared}
end
section
variable {X : Cx}
variable {mg : Str → Option Value} {base : Heap} {ca : Nat → Addr} {N : List Str} {sc : Scope} {vm tm : List Bool} {n : Nat} {C : Cn} {a : Expr} {ea : CE} {p p2 pos pos2 : Pos}
end
end Y
namespace Y
open PySem PySem.Spec L2 PyProof.Rows
section
variable {X : Cx} {pins : List (Addr × Obj)} {σ : L2.St} {H : Hp} {s : Shared} {a b : Addr} {A : Around} {E : Value → Shared → Prop}
end
section
variable {ca : Nat → Addr} {φ φ' : List Addr} {G G' H : Hp} {O T : Cs} {X : Cx} {K : PySem.W.Frag} {l : Bool}
end
end Y
namespace Y
open PySem PySem.Spec L2 PyProof.Rows
def del (G : Hp) (a : Addr) : Hp := fun b => if b = a then none else G b
theorem del_same {G : Hp} {a : Addr} : del G a a = none := if_pos rfl
theorem del_ne {G : Hp} {a b : Addr} (h : b ≠ a) : del G a b = G b := if_neg h
section
variable {ca : Nat → Addr} {φ φ' φ0 : List Addr} {G G' G0 G1 H : Hp} {S O T : Cs} {a : Addr} {od : Obj} {ws : List (List L2.Key × V)} {K : PySem.W.Frag}
variable {X : Cx} {C : Cn} {e tg : Expr} {ea ec : CE} {st : Stmt} {cs : CS} {pos : Pos}
end
end Y
namespace Y
open PySem PySem.Spec L2 PyProof.Rows
section
variable {ca : Nat → Addr} {φ φ' φ0 : List Addr} {G G' G0 G1 H : Hp} {S O T : Cs} {a : Addr} {od : Obj} {ls : List V}
variable {X : Cx} {C : Cn} {e : Expr} {ec : CE} {x : Nat}
end
end Y
namespace Y
open PySem PySem.Spec L2
section
variable {ca : Nat → Addr} {φ φ' φ0 : List Addr} {G G' G0 H : Hp} {O T : Cs} {X : Cx} {C : Cn} {σ : L2.St} {ρ : Rho} {pos p : Pos} {a b c e tg : Expr} {ea eb ec : CE} {N : List Str} {sc : Scope} {vm tm : List Bool} {n : Nat}
end
end Y
namespace Y
open PySem PySem.Spec L2 PyProof.Rows
section
variable {X : Cx} {a b c e : Expr} {ta tb tc : TE}
end
section
variable {ca : Nat → Addr} {X : Cx} {C : Cn} {p p2 pos pos2 : Pos} {a b c : Expr} {ea eb ec : CE} {N : List Str} {sc : Scope} {vm tm : List Bool} {n : Nat}
end
end Y
namespace Y
open PySem PySem.Spec L2 PyProof.Rows
section
variable {X : Cx} {pins : List (Addr × Obj)} {σ : L2.St} {H : Hp} {s : Shared} {d : Addr} {o : Obj}
end
section
variable {P : Program} {w : World} {K : PySem.W.Frag} {tg : Expr} {d : Addr} {o : Obj} {es : Array DictEntry} {ep : Nat}
end
section
variable {X : Cx} {tg e : Expr} {td : TE} {apos cpos : Pos}
end
section
variable {ca : Nat → Addr} {φ φ0 : List Addr} {G G0 H : Hp} {S O : Cs}
variable {X : Cx} {C : Cn} {e tg : Expr} {ea : CE} {apos cpos : Pos}
end
end Y
namespace Y
open PySem PySem.Spec L2 PyProof.Rows
section
variable {X : Cx} {pins : List (Addr × Obj)} {σ : L2.St} {H : Hp} {s : Shared} {a : Addr} {A : Around} {E : Value → Shared → Prop}
end
section
variable {ca : Nat → Addr} {φ φ' : List Addr} {G G' H : Hp} {O T : Cs} {X : Cx} {K : PySem.W.Frag} {l : Bool}
end
section
variable {ca : Nat → Addr} {X : Cx} {C : Cn} {N : List Str} {sc : Scope} {vm tm : List Bool} {n : Nat} {o a b e : Expr} {es : List Expr} {eo ea eb : CE} {as : CA} {apos cpos pos p : Pos} {x y : Str}
end
end Y
namespace Y
open PySem PySem.Spec L2 PyProof.Rows
section
variable {X : Cx} {o : Expr} {f : Str} {pos : Pos} {to : TE}
end
section
variable {ca : Nat → Addr} {K : PySem.W.Frag} {C : Cn} {φ : List Addr} {G H : Hp} {O T T' : Cs} {σ : L2.St} {ρ : Rho}
end
section
variable {ca : Nat → Addr} {X : Cx} {C : Cn} {N : List Str} {sc : Scope} {vm tm : List Bool} {n : Nat} {o o2 e : Expr} {ea : CE} {f h : Str} {pos p1 p2 pt : Pos} {kt : Nat}
end
end Y
namespace Y
open PySem
namespace S
section
variable {C : Cn} {O T T1 T2 T3 : Cs} {ρ ρ' : Rho}
theorem E_v {i : Nat} {u : U} (h : ρ[i]? = some (some u)) : den C O ρ (.v i) T = .ok u T := by rw [den_v,h]
theorem E_c (x : D) : den C O ρ (.c x) T = .ok (.d x) T := den_c ..
theorem E_bin {l : Bool} {o : Op} {a b : CE} {x y z : U} (ha : den C O ρ a T = .ok x T1) (hb : den C O ρ b T1 = .ok y T2) (h : binU O l o x y T2 = .ok z T3) : den C O ρ (.bin l o a b) T = .ok z T3 := by
  rw [den_bin,ha,R.bind_ok,hb,R.bind_ok,h]
theorem E_neg {a : CE} {i : Int} (ha : den C O ρ a T = .ok (.d (.int i)) T1) : den C O ρ (.neg a) T = .ok (.d (.int (-i))) T1 := by
  rw [den_neg,ha,R.bind_ok]
theorem E_cmp {o : COp} {a b : CE} {x y : U} {v : Bool} (ha : den C O ρ a T = .ok x T1) (hb : den C O ρ b T1 = .ok y T2) (h : cmpU O o x y T2 = some v) : den C O ρ (.cmp o a b) T = .ok (.d (.bool v)) T2 := by
  rw [den_cmp,ha,R.bind_ok,hb,R.bind_ok,h]
theorem E_chain {o o' : COp} {a b e : CE} {x y z : U} {p q : Bool} (ha : den C O ρ a T = .ok x T1) (hb : den C O ρ b T1 = .ok y T2) (h : cmpU O o x y T2 = some p) (he : den C O ρ e T2 = .ok z T2) (h2 : cmpU O o' y z T2 = some q) : den C O ρ (.chain o o' a b e) T = .ok (.d (.bool (p && q))) T2 := by
  rw [den_chain,ha,R.bind_ok,hb,R.bind_ok,h]
  cases p
  · rfl
  · rw [brB_t,he,R.bind_ok,h2]
    rfl
theorem E_and {a b : CE} {p q : Bool} (ha : den C O ρ a T = .ok (.d (.bool p)) T1) (hb : p = true → den C O ρ b T1 = .ok (.d (.bool q)) T1) : den C O ρ (.and a b) T = .ok (.d (.bool (p && q))) T1 := by
  rw [den_and,ha,R.bind_ok]
  cases p
  · rfl
  · rw [hb rfl]
    rfl
theorem E_or {a b : CE} {p q : Bool} (ha : den C O ρ a T = .ok (.d (.bool p)) T1) (hb : p = false → den C O ρ b T1 = .ok (.d (.bool q)) T1) : den C O ρ (.or a b) T = .ok (.d (.bool (p || q))) T1 := by
  rw [den_or,ha,R.bind_ok]
  cases p
  · rw [hb rfl]
    rfl
  · rfl
theorem E_not {a : CE} {p : Bool} (ha : den C O ρ a T = .ok (.d (.bool p)) T1) : den C O ρ (.not a) T = .ok (.d (.bool (!p))) T1 := by
  rw [den_not,ha,R.bind_ok]
  cases p <;> rfl
theorem AP_0 : ([] : List U) ++ ([] : List D).map U.d = [] := rfl
theorem AP_d {x : D} {ds : List D} {us' : List U} (h : ([] : List U) ++ ds.map U.d = us') : ([] : List U) ++ (x :: ds).map U.d = .d x :: us' := by
  rw [← h]
  rfl
theorem AP_s {u : U} {us us' : List U} {ds : List D} (h : us ++ ds.map U.d = us') : (u :: us) ++ ds.map U.d = u :: us' := by
  rw [← h]
  rfl
def AllD (us : List U) (ds : List D) (n : Nat) : Prop := allD us = some ds ∧ us.length = n
theorem AD_nil : AllD [] [] 0 := ⟨rfl,rfl⟩
theorem AD_cons {x : D} {us : List U} {ds : List D} {n : Nat} (h : AllD us ds n) : AllD (.d x :: us) (x :: ds) (n + 1) := ⟨by rw [allD_cons,h.1]; rfl,by rw [List.length_cons,h.2]⟩
theorem EA_nil : denA C O ρ .nil T = .ok [] T := denA_nil ..
theorem EA_cons {a : CE} {r : CA} {u : U} {us : List U} (ha : den C O ρ a T = .ok u T1) (hr : denA C O ρ r T1 = .ok us T2) : denA C O ρ (.cons a r) T = .ok (u :: us) T2 := by
  rw [denA_cons,ha,R.bind_ok,hr,R.bind_ok]
theorem E_tup {as : CA} {us : List U} {ds : List D} {n : Nat} (ha : denA C O ρ as T = .ok us T1) (hd : AllD us ds n) (hn : n ≤ 64) : den C O ρ (.tup as) T = .ok (.d (.tuple ds)) T1 := by
  rw [den_tup,ha,R.bind_ok,if_pos (by rw [hd.2]; simp [Y.sizeOk]; omega)]
  unfold mkT
  rw [hd.1]
theorem E_lst {as : CA} {us : List U} {ds : List D} {n : Nat} (ha : denA C O ρ as T = .ok us T1) (hd : AllD us ds n) (hn : n ≤ 64) : den C O ρ (.lst false as) T = .ok (.d (.list ds)) T1 := by
  rw [den_lst,ha,R.bind_ok,if_pos (by rw [hd.2]; simp [Y.sizeOk]; omega)]
  unfold mkL
  rw [hd.1]
  rfl
theorem E_lstT {as : CA} {us : List U} {ds : List D} {n : Nat} (ha : denA C O ρ as T = .ok us T1) (hd : AllD us ds n) (hn : n ≤ 64) : den C O ρ (.lst true as) T = .ok (.ref (O.length + T1.length)) (T1 ++ [.lst ds]) := by
  rw [den_lst,ha,R.bind_ok,if_pos (by rw [hd.2]; simp [Y.sizeOk]; omega),mkL_t]
  unfold cellOf
  rw [hd.1]
theorem E_ix {a b : CE} {x y z : U} (ha : den C O ρ a T = .ok x T1) (hb : den C O ρ b T1 = .ok y T2) (h : ixU O x y T2 = some z) : den C O ρ (.ix a b) T = .ok z T2 := by
  rw [den_ix,ha,R.bind_ok,hb,R.bind_ok,h]
  rfl
theorem E_call {f : Nat} {as : CA} {us : List U} {u : U} (ha : denA C O ρ as T = .ok us T1) (hc : callP C O f us T1 = .ok u T2) : den C O ρ (.call false f as []) T = .ok u T2 := by
  rw [den_call,ha,R.bind_ok,if_neg (by decide),List.map_nil,List.append_nil]
  exact hc
theorem E_callD {f : Nat} {as : CA} {us us' : List U} {ds : List D} {u : U} (ha : denA C O ρ as T = .ok us T1) (hu : us ++ ds.map .d = us') (hc : callP C O f us' T1 = .ok u T2) : den C O ρ (.call false f as ds) T = .ok u T2 := by
  rw [den_call,ha,R.bind_ok,if_neg (by decide),hu]
  exact hc
theorem E_callL {f : Nat} {as : CA} {us us' : List U} {ds : List D} {u : U} (ha : denA C O ρ as T = .ok us T1) (hu : us ++ ds.map .d = us') (hc : C.call O f us' T1 = .ok u T2) : den C O ρ (.call true f as ds) T = .ok u T2 := by
  rw [den_call,ha,R.bind_ok,if_pos rfl,hu]
  exact hc
theorem E_bi {l : Bool} {b : BI} {as : CA} {us : List U} {u : U} (ha : denA C O ρ as T = .ok us T1) (h : biU O l b us T1 = .ok u T2) : den C O ρ (.bi l b as) T = .ok u T2 := by
  rw [den_bi,ha,R.bind_ok,h]
theorem E_mt {l : Bool} {m : MT} {o : CE} {as : CA} {x : U} {us : List U} {u : U} (ho : den C O ρ o T = .ok x T1) (ht : tyU O T1 x = some (mtTy m)) (ha : denA C O ρ as T1 = .ok us T2) (hm : mtU O l m x us T2 = .ok u T3) : den C O ρ (.mt l m o as) T = .ok u T3 := by
  rw [den_mt,ho,R.bind_ok,if_pos (tyM_of ht),ha,R.bind_ok,hm]
theorem E_fld {c : Nat} {o : CE} {f : Str} {x u : U} (ho : den C O ρ o T = .ok x T1) (hc : clsOf O T1 x = some c) (hf : fldU O x f T1 = some u) : den C O ρ (.fld c o f) T = .ok u T1 := by
  rw [den_fld,ho,R.bind_ok,if_pos hc,hf]
  rfl
theorem E_mcall {c f : Nat} {m : Str} {o : CE} {as : CA} {x u : U} {us : List U} (ho : den C O ρ o T = .ok x T1) (hc : clsOf O T1 x = some c) (hf : fldU O x m T1 = none) (ha : denA C O ρ as T1 = .ok us T2) (h : C.call O f (x :: us) T2 = .ok u T3) : den C O ρ (.mcall c f m o as) T = .ok u T3 := by
  rw [den_mcall,ho,R.bind_ok,if_pos ⟨hc,by rw [hf]; rfl⟩,ha,R.bind_ok,h]
theorem E_slcB {l : Bool} {a lo hi : CE} {x u : U} {i j : Int} (h1 : isSkip lo = false) (h2 : isSkip hi = false) (ha : den C O ρ a T = .ok x T1) (hl : den C O ρ lo T1 = .ok (.d (.int i)) T1) (hh : den C O ρ hi T1 = .ok (.d (.int j)) T1) (h : slcU O l x (some i) (some j) T1 = .ok u T2) : den C O ρ (.slc l a lo hi) T = .ok u T2 := by
  rw [den_slc,ha,R.bind_ok,h1,h2]
  simp only [Bool.false_eq_true,if_false,hl,R.bind_ok,partU_int,hh,h]
theorem E_slcL {l : Bool} {a lo : CE} {x u : U} {i : Int} (h1 : isSkip lo = false) (ha : den C O ρ a T = .ok x T1) (hl : den C O ρ lo T1 = .ok (.d (.int i)) T1) (h : slcU O l x (some i) none T1 = .ok u T2) : den C O ρ (.slc l a lo .skip) T = .ok u T2 := by
  rw [den_slc,ha,R.bind_ok,h1]
  simp only [Bool.false_eq_true,if_false,hl,R.bind_ok,partU_int,isSkip_skip,if_true,h]
theorem E_slcH {l : Bool} {a hi : CE} {x u : U} {j : Int} (h2 : isSkip hi = false) (ha : den C O ρ a T = .ok x T1) (hh : den C O ρ hi T1 = .ok (.d (.int j)) T1) (h : slcU O l x none (some j) T1 = .ok u T2) : den C O ρ (.slc l a .skip hi) T = .ok u T2 := by
  rw [den_slc,ha,R.bind_ok,h2]
  simp only [Bool.false_eq_true,if_false,hh,R.bind_ok,partU_int,isSkip_skip,if_true,h]
section
variable {l : Bool}
theorem V_add (i j : Int) : binU O l .add (.d (.int i)) (.d (.int j)) T = .ok (.d (.int (i + j))) T := rfl
theorem V_sub (i j : Int) : binU O l .sub (.d (.int i)) (.d (.int j)) T = .ok (.d (.int (i - j))) T := rfl
theorem V_mul {i j : Int} (h : mulOk i j = true) : binU O l .mul (.d (.int i)) (.d (.int j)) T = .ok (.d (.int (i * j))) T := by
  rw [binU_int,binI_mul,if_pos h]
theorem V_mod {i j : Int} (h : 0 < j) : binU O l .mod (.d (.int i)) (.d (.int j)) T = .ok (.d (.int (i % j))) T := by
  rw [binU_int,binI_mod,if_pos h]
theorem V_fdiv {i j : Int} (h : 0 < j) (h2 : j < 1000000000000000000000000000000000000000000000000000000000000) : binU O l .fdiv (.d (.int i)) (.d (.int j)) T = .ok (.d (.int (i / j))) T := by
  rw [binU_int,binI_fdiv,if_pos ⟨h,h2⟩]
theorem V_shl1 {j : Int} (h : 0 ≤ j) (h2 : j ≤ 1000) : binU O l .shl (.d (.int 1)) (.d (.int j)) T = .ok (.d (.int (2 ^ j.toNat))) T := by
  rw [binU_int,binI_shl,if_pos ⟨h,h2,by decide,by decide⟩,Int.one_mul]
theorem V_shr {i j : Int} (h : 0 ≤ j) : binU O l .shr (.d (.int i)) (.d (.int j)) T = .ok (.d (.int (i / 2 ^ j.toNat))) T := by
  rw [binU_int,binI_shr,if_pos h]
theorem V_band (i j : Int) : binU O l .band (.d (.int i)) (.d (.int j)) T = .ok (.d (.int (Builtin.bitAnd i j))) T := rfl
theorem V_bor (i j : Int) : binU O l .bor (.d (.int i)) (.d (.int j)) T = .ok (.d (.int (Builtin.bitOr i j))) T := rfl
theorem V_cat {a b : List D} (h : a.length + b.length ≤ 1000000) : binU O false .add (.d (.list a)) (.d (.list b)) T = .ok (.d (.list (a ++ b))) T := by
  rw [binU_cat,if_pos (by simpa [Y.sizeOk] using h),mkL_map]
theorem V_catT {a b : List D} (h : a.length + b.length ≤ 1000000) : binU O l .add (.d (.tuple a)) (.d (.tuple b)) T = .ok (.d (.tuple (a ++ b))) T := by
  rw [binU_catT,if_pos (by simpa [Y.sizeOk] using h)]
end
theorem V_catR {r : Nat} {a b : List D} (hg : getC O T r = some (.lst a)) (h : a.length + b.length ≤ 1000000) : binU O true .add (.ref r) (.d (.list b)) T = .ok (.ref (O.length + T.length)) (T ++ [.lst (a ++ b)]) := by
  have hs : seqL O T (.ref r) = some (a.map .d) := by rw [seqL_ref,hg]
  show (match seqL O T (.ref r),seqL O T (.d (.list b)) with
    | some us,some ws => if Y.sizeOk (us.length + ws.length) = true then mkL O true (us ++ ws) T else .fail
    | none,none => match seqT (.ref r),seqT (.d (.list b)) with
      | some us,some ws => if Y.sizeOk (us.length + ws.length) = true then .ok (mkT (us ++ ws)) T else .fail
      | _,_ => .fail
    | _,_ => .fail) = _
  rw [hs,seqL_d]
  simp only
  rw [if_pos (by simpa [Y.sizeOk] using h),mkL_t,← List.map_append,cellOf_map]
theorem V_app {l : Bool} {r : Nat} {ds : List D} {x : D} (hg : getC O T r = some (.lst ds)) (lo : O.length ≤ r) (hl : ds.length ≤ 1000000) : mtU O l .append (.ref r) [.d x] T = .ok (.d .none) (T.set (r - O.length) (.lst (ds ++ [x]))) := by
  show appU O r (.d x) T = _
  unfold appU
  rw [hg]
  simp only
  rw [if_pos (by simpa [Y.sizeOk] using hl)]
  unfold setC
  rw [if_pos ⟨lo,own_lt hg⟩]
theorem TY_ref {m : MT} {r : Nat} {ds : List D} (hg : getC O T r = some (.lst ds)) (hm : mtTy m = .list) : tyU O T (.ref r) = some (mtTy m) := by
  rw [tyU_ref,hg,hm]
theorem TY_refU {m : MT} {r : Nat} {us : List U} (hg : getC O T r = some (.lstU us)) (hm : mtTy m = .list) : tyU O T (.ref r) = some (mtTy m) := by
  rw [tyU_ref,hg,hm]
theorem K_eqI (i j : Int) : cmpU O .eq (.d (.int i)) (.d (.int j)) T = some (decide (i = j)) := cmp_eqI ..
theorem K_neI (i j : Int) : cmpU O .ne (.d (.int i)) (.d (.int j)) T = some (!decide (i = j)) := cmp_neI ..
theorem K_lt (i j : Int) : cmpU O .lt (.d (.int i)) (.d (.int j)) T = some (decide (i < j)) := rfl
theorem K_le (i j : Int) : cmpU O .le (.d (.int i)) (.d (.int j)) T = some (decide (i ≤ j)) := rfl
theorem K_gt (i j : Int) : cmpU O .gt (.d (.int i)) (.d (.int j)) T = some (decide (j < i)) := rfl
theorem K_ge (i j : Int) : cmpU O .ge (.d (.int i)) (.d (.int j)) T = some (decide (j ≤ i)) := rfl
theorem K_isN (x : U) : cmpU O .is x (.d .none) T = some (isNone x) := rfl
theorem K_isnN (x : U) : cmpU O .isnot x (.d .none) T = some (!isNone x) := rfl
def layS (s : Str) : Bool := PyData.canLay0 (.str s) && decide (PyData.depth (.str s) ≤ 0)
theorem lay_S {s : Str} (h : layS s = true) : lay 0 (.str s) := by
  unfold layS at h
  simp only [Bool.and_eq_true,decide_eq_true_eq] at h
  exact h
theorem K_sT {s : Str} (h : layS s = true) : cmpU O .eq (.d (.str s)) (.d (.str s)) T = some true := by
  rw [str_eq (lay_S h) (lay_S h)]
  simp
theorem K_sF {a b : Str} (ha : layS a = true) (hb : layS b = true) (h : decide (a = b) = false) : cmpU O .eq (.d (.str a)) (.d (.str b)) T = some false := by
  rw [str_eq (lay_S ha) (lay_S hb),h]
theorem K_neS {a b : Str} {v : Bool} (h : cmpU O .eq (.d (.str a)) (.d (.str b)) T = some v) : cmpU O .ne (.d (.str a)) (.d (.str b)) T = some (!v) := by
  unfold cmpU at h ⊢
  simp only [toD_d] at h ⊢
  split at h
  · rename_i hs
    rw [if_pos hs]
    cases h
    rfl
  · cases h
theorem X_T {ds : List D} {i : Int} {x : D} (h : L2.atI ds i = some x) : ixU O (.d (.tuple ds)) (.d (.int i)) T = some (.d x) := by rw [ixU_T,h]; rfl
theorem X_L {ds : List D} {i : Int} {x : D} (h : L2.atI ds i = some x) : ixU O (.d (.list ds)) (.d (.int i)) T = some (.d x) := by rw [ixU_L,h]; rfl
theorem X_tup {us : List U} {i : Int} {x : U} (h : L2.atI us i = some x) : ixU O (.tup us) (.d (.int i)) T = some x := h
theorem X_ref {ds : List D} {r : Nat} {i : Int} {x : D} (hg : getC O T r = some (.lst ds)) (h : L2.atI ds i = some x) : ixU O (.ref r) (.d (.int i)) T = some (.d x) := ixU_at hg h
theorem X_refU {us : List U} {r : Nat} {i : Int} {x : U} (hg : getC O T r = some (.lstU us)) (h : L2.atI us i = some x) : ixU O (.ref r) (.d (.int i)) T = some x := ixU_atU hg h
section
variable {l : Bool}
theorem W_lenL (ds : List D) : biU O l .len [.d (.list ds)] T = .ok (.d (.int ds.length)) T := by rw [biU_len,one_one,lenB_L]
theorem W_lenT (ds : List D) : biU O l .len [.d (.tuple ds)] T = .ok (.d (.int ds.length)) T := by rw [biU_len,one_one,lenB_T]
theorem W_lenR {ds : List D} {r : Nat} (hg : getC O T r = some (.lst ds)) : biU O l .len [.ref r] T = .ok (.d (.int ds.length)) T := by rw [biU_len,one_one,lenB_ref hg]
theorem W_lenRU {us : List U} {r : Nat} (hg : getC O T r = some (.lstU us)) : biU O l .len [.ref r] T = .ok (.d (.int us.length)) T := by rw [biU_len,one_one,lenB_refU hg]
theorem W_tupleL (ds : List D) : biU O l .tuple [.d (.list ds)] T = .ok (.d (.tuple ds)) T := by rw [biU_tuple,one_one,tupleB_L]
theorem W_listL (ds : List D) : biU O false .list [.d (.list ds)] T = .ok (.d (.list ds)) T := by rw [biU_list,one_one,listB_L,mkL_map]
theorem W_listT (ds : List D) : biU O false .list [.d (.tuple ds)] T = .ok (.d (.list ds)) T := by rw [biU_list,one_one,listB_T,mkL_map]
theorem W_min2 (i j : Int) : biU O l .min2 [.d (.int i),.d (.int j)] T = .ok (.d (.int (if j < i then j else i))) T := rfl
theorem W_max2 (i j : Int) : biU O l .max2 [.d (.int i),.d (.int j)] T = .ok (.d (.int (if i < j then j else i))) T := rfl
theorem W_abs (i : Int) : biU O l .abs [.d (.int i)] T = .ok (.d (.int (if i < 0 then -i else i))) T := rfl
theorem W_intB (b : Bool) : biU O l .int [.d (.bool b)] T = .ok (.d (.int (if b = true then 1 else 0))) T := rfl
theorem W_isintI (i : Int) : biU O l .isint [.d (.int i)] T = .ok (.d (.bool true)) T := rfl
theorem W_isintT (ds : List D) : biU O l .isint [.d (.tuple ds)] T = .ok (.d (.bool false)) T := rfl
end
theorem RS_0 (x u : Option U) : List.set (x :: ρ) 0 u = u :: ρ := rfl
theorem RS_s {x u : Option U} {k : Nat} (h : ρ.set k u = ρ') : List.set (x :: ρ) (k + 1) u = x :: ρ' := by rw [List.set_cons_succ,h]
section
variable {nx bk ct : Rho → Cs → Prop} {rt : U → Cs → Prop} {ex : Nat → List (Str × D) → Cs → Prop} {b : CB} {u : U} {T' : Cs}
theorem sA_asg {k : Nat} {e : CE} (he : den C O ρ e T = .ok u T') (hs : ρ.set k (some u) = ρ') (h : Wp (denB C O b ρ' T') nx bk ct rt) : Wp (denB C O (.cons (.asg (.nm k) e) b) ρ T) nx bk ct rt := st_asg he (by rw [hs]; exact h)
theorem sA_ite {t : CE} {a c : CB} {v : Bool} (he : den C O ρ t T = .ok (.d (.bool v)) T') (ht : v = true → Wp (denB C O a ρ T') (fun ρ T => Wp (denB C O b ρ T) nx bk ct rt) bk ct rt) (hf : v = false → Wp (denB C O c ρ T') (fun ρ T => Wp (denB C O b ρ T) nx bk ct rt) bk ct rt) : Wp (denB C O (.cons (.ite t a c) b) ρ T) nx bk ct rt := by
  refine st_ite v he ?_
  cases v with
  | true => exact ht rfl
  | false => exact hf rfl
theorem sA_iteT {t : CE} {a c : CB} {v : Bool} (he : den C O ρ t T = .ok (.d (.bool v)) T') (hv : v = true) (h : Wp (denB C O a ρ T') (fun ρ T => Wp (denB C O b ρ T) nx bk ct rt) bk ct rt) : Wp (denB C O (.cons (.ite t a c) b) ρ T) nx bk ct rt := by
  subst hv
  exact st_ite true he h
theorem sA_iteF {t : CE} {a c : CB} {v : Bool} (he : den C O ρ t T = .ok (.d (.bool v)) T') (hv : v = false) (h : Wp (denB C O c ρ T') (fun ρ T => Wp (denB C O b ρ T) nx bk ct rt) bk ct rt) : Wp (denB C O (.cons (.ite t a c) b) ρ T) nx bk ct rt := by
  subst hv
  exact st_ite false he h
theorem sA_retN (h : rt (.d .none) T) : Wp (denB C O (.cons .retN b) ρ T) nx bk ct rt := by
  rw [denB,denS_retN]
  exact h
theorem sA_seti {o i e : CE} {x y v w : U} {T1 T2 T3 T4 : Cs} (he : den C O ρ e T = .ok v T1) (ho : den C O ρ o T1 = .ok x T2) (hi : den C O ρ i T2 = .ok y T3) (hs : setiU O x y v T3 = .ok w T4) (h : Wp (denB C O b ρ T4) nx bk ct rt) : Wp (denB C O (.cons (.seti o i e) b) ρ T) nx bk ct rt := by
  refine st_nx (ρ' := ρ) (T' := T4) ?_ h
  rw [denS_seti,he,F.of_ok,ho,F.of_ok,hi,F.of_ok,hs,F.of_ok]
end
end
end S
end Y
local macro_rules
  | `(tactic| array_get_dec) => `(tactic| first
    | (with_reducible assumption)
    | (with_reducible exact Y.S.E_c _)
    | ((with_reducible apply Y.S.E_v) <;> rfl)
    | (with_reducible apply Y.S.E_bin) <;> array_get_dec
    | (with_reducible exact Y.S.EA_nil)
    | (with_reducible apply Y.S.EA_cons) <;> array_get_dec
    | (with_reducible apply Y.S.E_cmp) <;> array_get_dec
    | (with_reducible apply Y.S.E_call) <;> array_get_dec
    | (with_reducible apply Y.S.E_ix) <;> array_get_dec
    | (with_reducible apply Y.S.E_tup) <;> first | decide | array_get_dec
    | (with_reducible apply Y.S.E_lst) <;> first | decide | array_get_dec
    | (with_reducible apply Y.S.E_lstT) <;> first | decide | array_get_dec
    | (with_reducible apply Y.S.E_bi) <;> array_get_dec
    | (with_reducible apply Y.S.E_mt) <;> array_get_dec
    | (with_reducible apply Y.S.E_fld) <;> array_get_dec
    | (with_reducible apply Y.S.E_mcall) <;> array_get_dec
    | (with_reducible apply Y.S.E_callD) <;> array_get_dec
    | (with_reducible apply Y.S.E_callL) <;> array_get_dec
    | (with_reducible apply Y.S.E_not) <;> array_get_dec
    | ((with_reducible apply Y.S.E_and) <;> (try intro hp__) <;> (try simp only [decide_eq_true_eq,Bool.and_eq_true,Bool.not_eq_true',decide_eq_false_iff_not] at hp__) <;> array_get_dec)
    | ((with_reducible apply Y.S.E_or) <;> (try intro hp__) <;> (try simp only [decide_eq_false_iff_not,Bool.or_eq_false_iff,Bool.not_eq_false'] at hp__) <;> array_get_dec)
    | (with_reducible apply Y.S.E_chain) <;> array_get_dec
    | (with_reducible apply Y.S.E_neg) <;> array_get_dec
    | (with_reducible apply Y.S.E_slcB) <;> first | rfl | array_get_dec
    | (with_reducible apply Y.S.E_slcL) <;> first | rfl | array_get_dec
    | (with_reducible apply Y.S.E_slcH) <;> first | rfl | array_get_dec
    | (with_reducible exact Y.S.AP_0)
    | (with_reducible apply Y.S.AP_s) <;> array_get_dec
    | (with_reducible apply Y.S.AP_d) <;> array_get_dec
    | (with_reducible exact Y.S.AD_nil)
    | (with_reducible apply Y.S.AD_cons) <;> array_get_dec
    | (with_reducible exact Y.S.V_add _ _)
    | (with_reducible exact Y.S.V_sub _ _)
    | (with_reducible apply Y.S.V_mul) <;> first | assumption | exact Y.mul_okL (by omega) | decide
    | (with_reducible apply Y.S.V_mod) <;> first | decide | omega
    | (with_reducible apply Y.S.V_fdiv) <;> first | decide | omega
    | (with_reducible apply Y.S.V_shl1) <;> first | decide | omega
    | (with_reducible apply Y.S.V_shr) <;> first | decide | omega
    | (with_reducible exact Y.S.V_band _ _)
    | (with_reducible exact Y.S.V_bor _ _)
    | (with_reducible apply Y.S.V_cat) <;> (simp; omega)
    | (with_reducible apply Y.S.V_catT) <;> (simp; omega)
    | (with_reducible apply Y.S.V_catR) <;> first | assumption | omega | (simp; omega) | rfl
    | (with_reducible apply Y.S.V_app) <;> first | assumption | omega | (simp; omega) | rfl
    | (with_reducible apply Y.S.TY_ref) <;> first | assumption | rfl
    | (with_reducible exact Y.S.K_eqI _ _)
    | (with_reducible exact Y.S.K_neI _ _)
    | (with_reducible exact Y.S.K_lt _ _)
    | (with_reducible exact Y.S.K_le _ _)
    | (with_reducible exact Y.S.K_gt _ _)
    | (with_reducible exact Y.S.K_ge _ _)
    | (with_reducible exact Y.S.K_isN _)
    | (with_reducible exact Y.S.K_isnN _)
    | (with_reducible apply Y.S.K_sT) <;> decide +kernel
    | (with_reducible apply Y.S.K_sF) <;> decide +kernel
    | (with_reducible apply Y.S.K_neS) <;> array_get_dec
    | (with_reducible apply Y.S.X_T) <;> first | assumption | rfl
    | (with_reducible apply Y.S.X_L) <;> first | assumption | rfl
    | (with_reducible apply Y.S.X_tup) <;> first | assumption | rfl
    | (with_reducible apply Y.S.X_ref) <;> first | assumption | rfl
    | (with_reducible apply Y.S.X_refU) <;> first | assumption | rfl
    | (with_reducible exact Y.S.W_lenL _)
    | (with_reducible exact Y.S.W_lenT _)
    | (with_reducible apply Y.S.W_lenR) <;> assumption
    | (with_reducible apply Y.S.W_lenRU) <;> assumption
    | (with_reducible exact Y.S.W_tupleL _)
    | (with_reducible exact Y.S.W_listL _)
    | (with_reducible exact Y.S.W_listT _)
    | (with_reducible exact Y.S.W_min2 _ _)
    | (with_reducible exact Y.S.W_max2 _ _)
    | (with_reducible exact Y.S.W_abs _)
    | (with_reducible exact Y.S.W_intB _)
    | (with_reducible exact Y.S.W_isintI _)
    | (with_reducible exact Y.S.W_isintT _))
local macro_rules
  | `(tactic| sizeOf_list_dec) => `(tactic| repeat (first | (with_reducible exact Y.S.RS_0 _ _) | (with_reducible apply Y.S.RS_s)))
local macro_rules
  | `(tactic| array_mem_dec) => `(tactic| first
    | ((with_reducible apply Y.S.sA_asg); (focus array_get_dec); (focus sizeOf_list_dec))
    | ((with_reducible apply Y.S.st_ex); (focus array_get_dec))
    | ((with_reducible apply Y.S.st_ret); (focus array_get_dec))
    | ((with_reducible apply Y.S.sA_iteF); (focus array_get_dec); (focus (rfl)))
    | ((with_reducible apply Y.S.sA_iteT); (focus array_get_dec); (focus (rfl))))
namespace Y
open PySem PySem.Spec L2 PyProof.Rows
def hI : Sum Int Str → Int
  | .inl k => hashInt k
  | .inr _ => 0
def hK (ks : Ky) : Int := reduceHash (Builtin.Tuple.tupleHashOf (ks.map hI))
end Y
namespace Y
open PySem PySem.Spec L2 PyProof.Rows
section
variable {X : Cx} {pins : List (Addr × Obj)} {σ : L2.St} {H : Hp} {s : Shared} {a : Addr} {A : Around} {E : Value → Shared → Prop}
end
theorem RpK.drop {G : Hp} {φ : List Addr} (k : Ky) : ∀ {ws : List (List L2.Key × V)} {kvs : List (Ky × U)},RpK G φ ws kvs → RpK G φ (dropK ws k) (kvs.filter fun p => decide (p.1 ≠ k))
  | _,_,.nil => .nil
  | _,_,.cons (k := k') h t => by
    unfold dropK
    by_cases e : k' = k
    · rw [List.filter_cons_of_neg (by simpa using e),List.filter_cons_of_neg (by simpa using e)]
      exact RpK.drop k t
    · rw [List.filter_cons_of_pos (by simpa using e),List.filter_cons_of_pos (by simpa using e)]
      exact .cons h (RpK.drop k t)
section
variable {ca : Nat → Addr} {φ φ' : List Addr} {G G' H : Hp} {O T : Cs} {X : Cx} {K : PySem.W.Frag} {l : Bool}
theorem minL_mem (n : Int) (ns : List Int) : minL n ns ∈ n :: ns ∧ ∀ y ∈ n :: ns,minL n ns ≤ y := by
  unfold minL
  induction ns generalizing n with
  | nil => simp
  | cons b r ih =>
    rw [List.foldl_cons]
    obtain ⟨h1,h2⟩ := ih (if b < n then b else n)
    refine ⟨?_,fun y hy => ?_⟩
    · rcases List.mem_cons.mp h1 with h | h
      · rw [h]; split <;> simp
      · exact List.mem_cons_of_mem _ (List.mem_cons_of_mem _ h)
    · have h0 := h2 _ List.mem_cons_self
      generalize List.foldl (fun a b => if b < a then b else a) (if b < n then b else n) r = m at *
      rcases List.mem_cons.mp hy with rfl | hy
      · split at h0 <;> omega
      · rcases List.mem_cons.mp hy with rfl | hy
        · split at h0 <;> omega
        · exact h2 y (List.mem_cons_of_mem _ hy)
theorem cr_min1 (hc : X.calm = true) : CallR X (.builtin "min") (rBi ca l .min1) := by
  rintro pins s σ H xs us Q I rv h0
  obtain ⟨x,φ,G,O,T,u,rfl,sd,r,h⟩ := bi_one (b := .min1) (f := fun O T => min1B O T) (fun _ _ _ => rfl) h0
  clear h0
  unfold min1B at h
  split at h
  · rename_i n ns hn
    obtain ⟨ds,e1,e2⟩ := Option.bind_eq_some_iff.mp hn
    obtain ⟨a,vs,rfl,ha,hv⟩ := listD_ok sd r e1
    have := intsOf_ok hv e2
    subst this
    refine cr_min hc pins s σ H _ us Q I rv ⟨a,n :: ns,rfl,.inl ha,by simp,fun m h1 h2 => ?_⟩
    obtain ⟨g1,g2⟩ := minL_mem n ns
    have e : m = minL n ns := by
      have := h2 _ g1
      have := g2 _ h1
      omega
    rw [e]
    exact Pc.now h sd (.d (.int _))
  · exact h.elim
end
section
variable {ca : Nat → Addr} {X : Cx} {C : Cn} {N : List Str} {sc : Scope} {vm tm : List Bool} {n : Nat} {o a b e : Expr} {es : List Expr} {eo ea eb : CE} {as : CA} {apos cpos pos p : Pos} {x y : Str}
theorem f_min1 (g : Cg X N sc vm tm n) {l : Bool} (hm : X.mg "min" = none) (ha : PA X (e :: es) (RA ca C as)) (hg : sc.names.lookup ("min" : Str) = some .globalImplicit := by rfl)
    (he : starEach (e :: es) X.env = (false,eval e X.env) :: starEach es X.env := by rfl) (hpl : (backTo pos (starEach es X.env)).any (·.1) = false := by rfl) : PE X (.Call (.Name "min" p) (e :: es) [] pos) (RE ca C (.bi l .min1 as)) :=
  y_cb g (cr_min1 g.calm) hm bt_min ha hg (by decide) (by decide) he hpl
inductive LitP : List (Option Expr) → List Expr → List (Str × Int) → Prop
  | nil : LitP [] [] []
  | cons {x : Str} {i : Int} {j k : Nat} {p q : Pos} {ks : List (Option Expr)} {vs : List Expr} {l : List (Str × Int)} : LitP ks vs l → LitP (some (.Constant (.str x) j p) :: ks) (.Constant (.int i) k q :: vs) ((x,i) :: l)
theorem LitP.len {ks : List (Option Expr)} {vs : List Expr} {l : List (Str × Int)} (h : LitP ks vs l) : ks.length = l.length ∧ vs.length = l.length ∧ ks.all (·.isSome) = true := by
  induction h with
  | nil => exact ⟨rfl,rfl,rfl⟩
  | cons _ ih => exact ⟨by simp [ih.1],by simp [ih.2.1],by simp only [List.all_cons,Option.isSome_some,Bool.true_and]; exact ih.2.2⟩
end
end Y
namespace Y
open PySem PySem.Spec PySem.W L2 PyProof.Rows
section
variable {prog : Program} {w : World} {A : Around} {E : Value → Shared → Prop} {s : Shared}
end
section
variable {X : Cx} {pins : List (Addr × Obj)} {σ : L2.St} {H : Hp} {s : Shared} {a : Addr} {A : Around} {E : Value → Shared → Prop}
end
section
variable {ca : Nat → Addr} {φ φ' : List Addr} {G0 G' H : Hp} {O T : Cs} {X : Cx} {K : PySem.W.Frag} {l : Bool}
end
section
variable {ca : Nat → Addr} {X : Cx} {C : Cn} {N : List Str} {sc : Scope} {vm tm : List Bool} {n : Nat} {e : Expr} {es : List Expr} {as : CA} {pos p : Pos}
end
end Y
namespace Y
open PySem PySem.Spec PySem.W L2 PyProof.Rows
section
variable {X : Cx} {pins : List (Addr × Obj)} {σ : L2.St} {H : Hp} {s : Shared} {a : Addr} {E : Value → Shared → Prop}
end
section
variable {ca : Nat → Addr} {φ φ' : List Addr} {G0 G' H : Hp} {O T : Cs} {X : Cx} {K : PySem.W.Frag} {l : Bool}
end
section
variable {ca : Nat → Addr} {X : Cx} {C : Cn} {N : List Str} {sc : Scope} {vm tm : List Bool} {n : Nat} {e : Expr} {es : List Expr} {as : CA} {pos p : Pos}
end
end Y
namespace Y
open PySem PySem.Spec L2 PyProof.Rows
theorem pairsI_ok : ∀ {ds : List D} {zs : List (Int × Int)},pairsI ds = some zs → ds = zs.map pairD
  | [],zs,h => by
    unfold pairsI at h
    cases h
    rfl
  | d :: r,zs,h => by
    unfold pairsI at h
    split at h
    · rename_i e
      cases e
    · rename_i a b r' e
      cases e
      obtain ⟨zs',e1,rfl⟩ := Option.map_eq_some_iff.mp h
      rw [pairsI_ok e1] <;> rfl
    · cases h
theorem pairsI_lay : ∀ (zs : List (Int × Int)),PyData.canLayAll0 (zs.map pairD) = true
  | [] => by simp [PyData.canLayAll0]
  | z :: r => by
    have := pairsI_lay r
    simp [PyData.canLayAll0,pairD,PyData.canLay0,this]
theorem toD_pairD (z : Int × Int) : PySem.W.Datum.toD z = pairD z := rfl
theorem minOf_minP (p : Int × Int) : ∀ ps : List (Int × Int),PySem.W.minOf p ps = minP p ps := by
  intro ps
  unfold PySem.W.minOf minP
  induction ps generalizing p with
  | nil => rfl
  | cons b r ih =>
    rw [List.foldl_cons,List.foldl_cons,ih]
    congr 1
    have e : (PySem.W.DatumOrd.lt b p = true) ↔ (b.1 < p.1 ∨ b.1 = p.1 ∧ b.2 < p.2) := by
      show ((if b.1 = p.1 then decide (b.2 < p.2) else decide (b.1 < p.1)) = true) ↔ _
      split
      · rw [decide_eq_true_eq]
        omega
      · rw [decide_eq_true_eq]
        omega
    by_cases h : b.1 < p.1 ∨ b.1 = p.1 ∧ b.2 < p.2
    · rw [if_pos h,if_pos (e.mpr h)]
    · rw [if_neg h,if_neg (fun z => h (e.mp z))]
section
variable {ca : Nat → Addr} {φ φ' : List Addr} {G G' H : Hp} {O T : Cs} {X : Cx} {K : PySem.W.Frag} {l : Bool}
theorem cr_min1P (hc : X.calm = true) (hu : X.A.units + 64 < cLine) : CallR X (.builtin "min") (rBi ca l .min1P) := by
  rintro pins s σ H xs us Q I rv h0
  obtain ⟨x,φ,G,O,T,u,rfl,sd,r,h⟩ := bi_one (b := .min1P) (f := fun O T => min1PB O T) (fun _ _ _ => rfl) h0
  clear h0
  unfold min1PB at h
  split at h
  · rename_i p ps hn
    obtain ⟨ds,e1,e2⟩ := Option.bind_eq_some_iff.mp hn
    obtain ⟨a,vs,rfl,ha,hv⟩ := listD_ok sd r e1
    have ed := pairsI_ok e2
    subst ed
    rw [Vals.ref1 rv]
    obtain ⟨its,rv',hl,_⟩ := I.list (show SqL X.K H a vs from .inl ha)
    obtain ⟨as,ra⟩ := Dp.readsAll I _ _ its (Rps.dp (K := X.K) sd.ex _ _ hv (pairsI_lay _)) rv'
    refine PySem.W.min_list_datum (α := Int × Int) (x := p) (xs := ps) (I.ok.hd hc) hl.isList ⟨as,ra⟩ ?_ fun i v h' tk hi hm hk => ?_
    · show X.A.units + 1 + PySem.W.Datum.depth (Int × Int) < cLine
      have : PySem.W.Datum.depth (Int × Int) ≤ 8 := by decide
      omega
    · have hi' : its[i]? = some v := by simpa using hi
      obtain ⟨bs,r1,hb,_,_⟩ := PySem.W.readsAll_at ra i v hi'
      obtain ⟨cs,r2⟩ := hm
      have e3 := (reads_det (fun b o e _ => hk b o e) r1 r2).1
      rw [toD_pairD,minOf_minP] at e3
      obtain ⟨d,hd⟩ : ∃ d,((p :: ps).map pairD)[i]? = some d := ⟨_,List.getElem?_eq_getElem hb⟩
      have e4 : ((p :: ps).map pairD).getD i .none = d := by rw [List.getD,hd]; rfl
      rw [e4] at e3
      subst e3
      obtain ⟨w,hw,rw'⟩ := Rps.get hv hd
      obtain ⟨v',hv',rel⟩ := rv'.get hw
      have e5 : v' = v := Option.some.inj (hv'.symm.trans hi')
      subst e5
      exact ⟨w,H,I.kept hk,rel,Pc.now h sd (.d rw')⟩
  · exact h.elim
end
section
variable {X : Cx} {mg : Str → Option Value} {base : Heap} {ca : Nat → Addr} {N : List Str} {sc : Scope} {vm tm : List Bool} {n : Nat} {C : Cn} {e : Expr} {es : List Expr} {as : CA} {p pos : Pos}
theorem f_min1P (g : Cg X N sc vm tm n) {l : Bool} (hm : X.mg "min" = none) (ha : PA X (e :: es) (RA ca C as)) (hg : sc.names.lookup ("min" : Str) = some .globalImplicit := by rfl)
    (he : starEach (e :: es) X.env = (false,eval e X.env) :: starEach es X.env := by rfl) (hpl : (backTo pos (starEach es X.env)).any (·.1) = false := by rfl) : PE X (.Call (.Name "min" p) (e :: es) [] pos) (RE ca C (.bi l .min1P as)) :=
  y_cb g (cr_min1P g.calm (by have := g.hu; omega)) hm bt_min ha hg (by decide) (by decide) he hpl
end
end Y
namespace Lk21
open PySem PySem.Spec L2 Y
def b5 : CB := (.cons (.ite (.cmp .ne (.bi false .len (.cons (.v 0) .nil)) (.v 1)) (.cons (.ret (.c (.bool false)))
  .nil) .nil)
 (.cons (.for_ (.nm 3) (.tup (.v 0)) (.cons (.ite (.not (.chain .le .lt (.c (.int 0)) (.v 3) (.bin false .shl (.c (.int 1)) (.v 2)))) (.cons (.ret (.c (.bool false)))
   .nil) .nil)
  .nil))
 (.cons (.ret (.c (.bool true)))
 .nil)))
def d_is_table : FD := ⟨3,4,b5⟩
def b6 : CB := (.cons (.asg (.tp (.cons (.nm 3) (.cons (.nm 4) (.cons (.nm 5) .nil)))) (.ix (.v 0) (.v 1)))
 (.cons (.ite (.or (.not (.chain .le .lt (.c (.int 0)) (.ix (.v 2) (.c (.int 1))) (.v 3))) (.or (.not (.chain .le .lt (.c (.int 0)) (.ix (.v 2) (.c (.int 2))) (.v 3))) (.not (.chain .le .le (.c (.int 1)) (.ix (.v 2) (.c (.int 3))) (.g 4))))) (.cons (.ret (.c (.bool false)))
  .nil) .nil)
 (.cons (.ite (.cmp .eq (.ix (.v 2) (.c (.int 0))) (.c (.str "step"))) (.cons (.ret (.call false 5 (.cons (.ix (.v 2) (.c (.int 4))) (.cons (.v 4) (.cons (.v 4) .nil))) []))
  .nil) .nil)
 (.cons (.ite (.not (.chain .le .lt (.c (.int 0)) (.ix (.v 2) (.c (.int 4))) (.bi false .len (.cons (.v 0) .nil)))) (.cons (.ret (.c (.bool false)))
  .nil) .nil)
 (.cons (.asg (.nm 6) (.ix (.ix (.v 0) (.ix (.v 2) (.c (.int 4)))) (.c (.int 1))))
 (.cons (.asg (.nm 7) (.and (.call false 5 (.cons (.ix (.v 2) (.c (.int 5))) (.cons (.v 4) (.cons (.v 6) .nil))) []) (.call false 5 (.cons (.ix (.v 2) (.c (.int 6))) (.cons (.v 6) (.cons (.v 4) .nil))) [])))
 (.cons (.ret (.and (.v 7) (.call false 5 (.cons (.ix (.v 2) (.c (.int 7))) (.cons (.v 4) (.cons (.v 4) .nil))) [])))
 .nil)))))))
def d_is_edge : FD := ⟨3,8,b6⟩
def b7 : CB := (.cons (.ite (.not (.chain .le .le (.c (.int 1)) (.bi false .len (.cons (.v 0) .nil)) (.g 1))) (.cons (.raise 4 ["function", "edge"] (.cons (.neg (.c (.int 1))) (.cons (.neg (.c (.int 1))) .nil)))
  .nil) .nil)
 (.cons (.for_ (.tp (.cons (.nm 1) (.cons (.nm 2) .nil))) (.enumL (.v 0)) (.cons (.ite (.or (.not (.chain .le .le (.c (.int 1)) (.ix (.v 2) (.c (.int 0))) (.g 2))) (.not (.chain .le .le (.c (.int 1)) (.ix (.v 2) (.c (.int 1))) (.g 0)))) (.cons (.raise 4 ["function", "edge"] (.cons (.v 1) (.cons (.neg (.c (.int 1))) .nil)))
   .nil) .nil)
  .nil))
 (.cons (.asg (.nm 3) (.c (.int 0)))
 (.cons (.for_ (.tp (.cons (.nm 1) (.cons (.nm 2) .nil))) (.enumL (.v 0)) (.cons (.for_ (.tp (.cons (.nm 4) (.cons (.nm 5) .nil))) (.enumL (.ix (.v 2) (.c (.int 2)))) (.cons (.asg (.nm 3) (.bin false .add (.v 3) (.c (.int 1))))
   (.cons (.ite (.or (.cmp .gt (.v 3) (.g 3)) (.not (.call false 6 (.cons (.v 0) (.cons (.v 1) (.cons (.v 5) .nil))) []))) (.cons (.raise 4 ["function", "edge"] (.cons (.v 1) (.cons (.v 4) .nil)))
    .nil) .nil)
   .nil)))
  .nil))
 (.cons (.ret (.comp true (.tup (.cons (.ix (.v 2) (.c (.int 0))) (.cons (.ix (.v 2) (.c (.int 1))) (.cons (.bi true .list (.cons (.ix (.v 2) (.c (.int 2))) .nil)) .nil)))) (.nm 2) (.lst (.v 0)) (.c (.bool true)) [2]))
 .nil)))))
def d_checked : FD := ⟨1,6,b7⟩
def b8 : CB := (.cons (.ite (.cmp .lt (.v 1) (.bi false .len (.cons (.v 0) .nil))) (.cons (.ret (.ix (.v 0) (.v 1)))
  .nil) .nil)
 (.cons (.ret (.bin false .add (.bin false .mul (.c (.int 7919)) (.v 1)) (.bi false .len (.cons (.v 0) .nil))))
 .nil))
def d__law_cell_at : FD := ⟨2,2,b8⟩
def b9 : CB := (.cons (.asg (.nm 3) (.ix (.lst false (.cons (.c (.int 48271)) (.cons (.c (.int 69621)) (.cons (.c (.int 39373)) (.cons (.c (.int 16807)) (.cons (.c (.int 40692)) (.cons (.c (.int 52774)) (.cons (.c (.int 33614)) .nil)))))))) (.bin false .mod (.v 1) (.c (.int 7)))))
 (.cons (.asg (.nm 4) (.bin false .add (.bin false .add (.bin false .mul (.bin false .mod (.v 0) (.c (.int 2147483647))) (.v 3)) (.bin false .mul (.c (.int 7919)) (.v 1))) (.c (.int 13))))
 (.cons (.ret (.bin false .mod (.bin false .mod (.bin false .mul (.v 4) (.bin false .add (.bin false .mod (.v 4) (.c (.int 104729))) (.c (.int 1)))) (.ix (.lst false (.cons (.c (.int 2147483629)) (.cons (.c (.int 2147483587)) (.cons (.c (.int 2147483579)) .nil)))) (.bin false .mod (.v 1) (.c (.int 3))))) (.v 2)))
 .nil)))
def d__law_pick : FD := ⟨3,5,b9⟩
def b10 : CB := (.cons (.asg (.nm 4) (.lst true .nil))
 (.cons (.for_ (.nm 5) (.rng1 (.v 2)) (.cons (.asg (.nm 6) (.call false 9 (.cons (.v 0) (.cons (.bin false .add (.v 1) (.bin false .mul (.c (.int 2)) (.v 5))) (.cons (.bin false .shl (.c (.int 1)) (.v 3)) .nil))) []))
  (.cons (.ite (.cmp .gt (.call false 9 (.cons (.v 0) (.cons (.bin false .add (.v 1) (.c (.int 19))) (.cons (.c (.int 3)) .nil))) []) (.c (.int 0))) (.cons (.asg (.nm 6) (.bin false .band (.v 6) (.call false 9 (.cons (.v 0) (.cons (.bin false .add (.bin false .add (.v 1) (.bin false .mul (.c (.int 2)) (.v 5))) (.c (.int 1))) (.cons (.bin false .shl (.c (.int 1)) (.v 3)) .nil))) [])))
   .nil) .nil)
  (.cons (.ite (.cmp .gt (.call false 9 (.cons (.v 0) (.cons (.bin false .add (.v 1) (.c (.int 20))) (.cons (.c (.int 3)) .nil))) []) (.c (.int 0))) (.cons (.asg (.nm 6) (.bin false .bor (.v 6) (.bin false .shl (.c (.int 1)) (.bin false .mod (.v 5) (.v 3)))))
   .nil) .nil)
  (.cons (.ex (.mt false .append (.v 4) (.cons (.v 6) .nil)))
  .nil)))))
 (.cons (.ret (.bi false .tuple (.cons (.v 4) .nil)))
 .nil)))
def d__law_table : FD := ⟨4,7,b10⟩
def b11 : CB := (.cons (.asg (.tp (.cons (.nm 3) (.cons (.nm 4) .nil))) (.ix (.v 0) (.v 1)))
 (.cons (.asg (.nm 5) (.lst false (.cons (.bin false .add (.c (.int 1)) (.bin false .mod (.v 2) (.bin false .pow (.c (.int 10)) (.c (.int 18))))) (.cons (.bin false .add (.c (.int 1)) (.call false 9 (.cons (.v 2) (.cons (.c (.int 2)) (.cons (.c (.int 9)) .nil))) [])) (.cons (.bin false .sub (.bin false .pow (.c (.int 10)) (.c (.int 18))) (.call false 9 (.cons (.v 2) (.cons (.c (.int 8)) (.cons (.c (.int 2)) .nil))) [])) .nil)))))
 (.cons (.asg (.nm 6) (.ix (.v 5) (.call false 9 (.cons (.v 2) (.cons (.c (.int 3)) (.cons (.c (.int 3)) .nil))) [])))
 (.cons (.asg (.nm 7) (.tup (.cons (.call false 9 (.cons (.v 2) (.cons (.c (.int 4)) (.cons (.v 3) .nil))) []) (.cons (.call false 9 (.cons (.v 2) (.cons (.c (.int 5)) (.cons (.v 3) .nil))) []) (.cons (.v 6) .nil)))))
 (.cons (.ite (.cmp .lt (.call false 9 (.cons (.v 2) (.cons (.c (.int 6)) (.cons (.c (.int 5)) .nil))) []) (.c (.int 3))) (.cons (.ret (.bin false .add (.bin false .add (.tup (.cons (.c (.str "step")) .nil)) (.v 7)) (.tup (.cons (.call false 10 (.cons (.v 2) (.cons (.c (.int 30)) (.cons (.v 4) (.cons (.v 4) .nil)))) []) .nil))))
  .nil) .nil)
 (.cons (.asg (.nm 8) (.call false 9 (.cons (.v 2) (.cons (.c (.int 7)) (.cons (.bi false .len (.cons (.v 0) .nil)) .nil))) []))
 (.cons (.asg (.nm 9) (.call false 10 (.cons (.v 2) (.cons (.c (.int 60)) (.cons (.v 4) (.cons (.ix (.ix (.v 0) (.v 8)) (.c (.int 1))) .nil)))) []))
 (.cons (.asg (.nm 10) (.call false 10 (.cons (.v 2) (.cons (.c (.int 90)) (.cons (.ix (.ix (.v 0) (.v 8)) (.c (.int 1))) (.cons (.v 4) .nil)))) []))
 (.cons (.ret (.bin false .add (.bin false .add (.tup (.cons (.c (.str "call")) .nil)) (.v 7)) (.tup (.cons (.v 8) (.cons (.v 9) (.cons (.v 10) (.cons (.call false 10 (.cons (.v 2) (.cons (.c (.int 120)) (.cons (.v 4) (.cons (.v 4) .nil)))) []) .nil)))))))
 .nil)))))))))
def d__law_edge : FD := ⟨3,11,b11⟩
def b12 : CB := (.cons (.asg (.nm 2) (.ix (.lst false (.cons (.tup (.cons (.c (.int 3)) (.cons (.c (.int 4)) (.cons (.c (.int 4)) .nil)))) (.cons (.tup (.cons (.c (.int 6)) (.cons (.c (.int 10)) (.cons (.c (.int 6)) .nil)))) .nil))) (.bi false .int (.cons (.cmp .eq (.call false 9 (.cons (.v 1) (.cons (.c (.int 0)) (.cons (.c (.int 6)) .nil))) []) (.c (.int 1))) .nil))))
 (.cons (.asg (.nm 3) (.lst true .nil))
 (.cons (.for_ (.nm 4) (.rng1 (.bin false .add (.c (.int 1)) (.call false 9 (.cons (.v 1) (.cons (.c (.int 1)) (.cons (.ix (.v 2) (.c (.int 0))) .nil))) []))) (.cons (.ex (.mt false .append (.v 3) (.cons (.tup (.cons (.bin false .add (.c (.int 1)) (.call false 9 (.cons (.v 1) (.cons (.bin false .add (.c (.int 10)) (.bin false .mul (.c (.int 2)) (.v 4))) (.cons (.ix (.v 2) (.c (.int 1))) .nil))) [])) (.cons (.bin false .add (.c (.int 1)) (.call false 9 (.cons (.v 1) (.cons (.bin false .add (.c (.int 11)) (.bin false .mul (.c (.int 2)) (.v 4))) (.cons (.ix (.v 2) (.c (.int 2))) .nil))) [])) .nil))) .nil)))
  .nil))
 (.cons (.asg (.nm 5) (.comp true (.lst true .nil) (.nm 8) (.lst (.v 3)) (.c (.bool true)) [8]))
 (.cons (.for_ (.tp (.cons (.nm 6) (.cons (.nm 7) .nil))) (.enumL (.slc false (.v 0) .skip (.c (.int 24)))) (.cons (.asg (.nm 4) (.call false 9 (.cons (.v 7) (.cons (.c (.int 1)) (.cons (.bi false .len (.cons (.v 3) .nil)) .nil))) []))
  (.cons (.ex (.mt false .append (.ix (.v 5) (.v 4)) (.cons (.call false 11 (.cons (.v 3) (.cons (.v 4) (.cons (.bin false .add (.v 7) (.bin false .mul (.c (.int 31)) (.v 6))) .nil))) []) .nil)))
  .nil)))
 (.cons (.ret (.comp false (.tup (.cons (.ix (.ix (.v 3) (.v 4)) (.c (.int 0))) (.cons (.ix (.ix (.v 3) (.v 4)) (.c (.int 1))) (.cons (.frz (.ix (.v 5) (.v 4))) .nil)))) (.nm 4) (.rng1 (.bi false .len (.cons (.v 3) .nil))) (.c (.bool true)) [4]))
 .nil))))))
def d__law_chart : FD := ⟨2,9,b12⟩
def b13 : CB := (.cons (.asg (.nm 3) (.call false 9 (.cons (.v 1) (.cons (.c (.int 20)) (.cons (.bi false .len (.cons (.v 0) .nil)) .nil))) []))
 (.cons (.asg (.nm 4) (.ix (.lst false (.cons (.bin false .shl (.c (.int 1)) (.v 2)) (.cons (.neg (.c (.int 1))) (.cons (.bin false .add (.bin false .shl (.c (.int 1)) (.v 2)) (.bin false .mod (.v 1) (.bin false .pow (.c (.int 10)) (.c (.int 9))))) .nil)))) (.call false 9 (.cons (.v 1) (.cons (.c (.int 21)) (.cons (.c (.int 3)) .nil))) [])))
 (.cons (.ret (.ix (.lst false (.cons (.bin false .add (.bin false .add (.slc false (.v 0) .skip (.v 3)) (.tup (.cons (.v 4) .nil))) (.slc false (.v 0) (.bin false .add (.v 3) (.c (.int 1))) .skip)) (.cons (.bin false .add (.v 0) (.tup (.cons (.c (.int 0)) .nil))) (.cons (.slc false (.v 0) .skip (.neg (.c (.int 1)))) .nil)))) (.call false 9 (.cons (.v 1) (.cons (.c (.int 22)) (.cons (.c (.int 3)) .nil))) [])))
 .nil)))
def d__law_spoilt_mask : FD := ⟨3,5,b13⟩
def b14 : CB := (.cons (.asg (.nm 4) (.call false 9 (.cons (.v 3) (.cons (.c (.int 23)) (.cons (.c (.int 5)) .nil))) []))
 (.cons (.asg (.nm 5) (.bin false .mul (.bin false .mod (.bin false .fdiv (.v 3) (.c (.int 7))) (.bin false .pow (.c (.int 10)) (.c (.int 18)))) (.call false 9 (.cons (.v 3) (.cons (.c (.int 31)) (.cons (.c (.int 2)) .nil))) [])))
 (.cons (.ite (.cmp .eq (.v 4) (.c (.int 0))) (.cons (.ret (.bin false .add (.bin false .add (.slc false (.v 2) .skip (.c (.int 1))) (.tup (.cons (.ix (.lst false (.cons (.bin false .add (.ix (.ix (.v 0) (.v 1)) (.c (.int 0))) (.v 5)) (.cons (.neg (.c (.int 1))) .nil))) (.call false 9 (.cons (.v 3) (.cons (.c (.int 24)) (.cons (.c (.int 2)) .nil))) [])) .nil))) (.slc false (.v 2) (.c (.int 2)) .skip)))
  .nil) .nil)
 (.cons (.ite (.cmp .eq (.v 4) (.c (.int 1))) (.cons (.ret (.bin false .add (.bin false .add (.slc false (.v 2) .skip (.c (.int 2))) (.tup (.cons (.ix (.lst false (.cons (.bin false .add (.ix (.ix (.v 0) (.v 1)) (.c (.int 0))) (.v 5)) (.cons (.neg (.c (.int 1))) .nil))) (.call false 9 (.cons (.v 3) (.cons (.c (.int 24)) (.cons (.c (.int 2)) .nil))) [])) .nil))) (.slc false (.v 2) (.c (.int 3)) .skip)))
  .nil) .nil)
 (.cons (.ite (.cmp .eq (.v 4) (.c (.int 2))) (.cons (.ret (.bin false .add (.bin false .add (.slc false (.v 2) .skip (.c (.int 3))) (.tup (.cons (.ix (.lst false (.cons (.c (.int 0)) (.cons (.bin false .add (.bin false .add (.bin false .pow (.c (.int 10)) (.c (.int 18))) (.c (.int 1))) (.v 5)) (.cons (.neg (.c (.int 1))) .nil)))) (.call false 9 (.cons (.v 3) (.cons (.c (.int 24)) (.cons (.c (.int 3)) .nil))) [])) .nil))) (.slc false (.v 2) (.c (.int 4)) .skip)))
  .nil) .nil)
 (.cons (.ite (.cmp .eq (.ix (.v 2) (.c (.int 0))) (.c (.str "step"))) (.cons (.ret (.bin false .add (.slc false (.v 2) .skip (.c (.int 4))) (.tup (.cons (.call false 13 (.cons (.ix (.v 2) (.c (.int 4))) (.cons (.v 3) (.cons (.ix (.ix (.v 0) (.v 1)) (.c (.int 1))) .nil))) []) .nil))))
  .nil) .nil)
 (.cons (.ite (.cmp .eq (.v 4) (.c (.int 3))) (.cons (.ret (.bin false .add (.bin false .add (.slc false (.v 2) .skip (.c (.int 4))) (.tup (.cons (.ix (.lst false (.cons (.bin false .add (.bi false .len (.cons (.v 0) .nil)) (.v 5)) (.cons (.neg (.c (.int 1))) .nil))) (.call false 9 (.cons (.v 3) (.cons (.c (.int 24)) (.cons (.c (.int 2)) .nil))) [])) .nil))) (.slc false (.v 2) (.c (.int 5)) .skip)))
  .nil) .nil)
 (.cons (.asg (.nm 6) (.bin false .add (.c (.int 5)) (.call false 9 (.cons (.v 3) (.cons (.c (.int 25)) (.cons (.c (.int 3)) .nil))) [])))
 (.cons (.asg (.nm 7) (.ix (.ix (.v 0) (.ix (.lst false (.cons (.ix (.v 2) (.c (.int 4))) (.cons (.v 1) (.cons (.v 1) .nil)))) (.bin false .sub (.v 6) (.c (.int 5))))) (.c (.int 1))))
 (.cons (.ret (.bin false .add (.bin false .add (.slc false (.v 2) .skip (.v 6)) (.tup (.cons (.call false 13 (.cons (.ix (.v 2) (.v 6)) (.cons (.v 3) (.cons (.v 7) .nil))) []) .nil))) (.slc false (.v 2) (.bin false .add (.v 6) (.c (.int 1))) .skip)))
 .nil))))))))))
def d__law_spoilt_edge : FD := ⟨4,8,b14⟩
def b15 : CB := (.cons (.asg (.nm 3) (.call false 9 (.cons (.v 1) (.cons (.c (.int 26)) (.cons (.bi false .len (.cons (.v 0) .nil)) .nil))) []))
 (.cons (.asg (.tp (.cons (.nm 4) (.cons (.nm 5) (.cons (.nm 6) .nil)))) (.ix (.v 0) (.v 3)))
 (.cons (.ite (.or (.cmp .eq (.v 6) (.lst false .nil)) (.cmp .eq (.call false 9 (.cons (.v 1) (.cons (.c (.int 27)) (.cons (.c (.int 4)) .nil))) []) (.c (.int 0)))) (.cons (.asg (.nm 7) (.ix (.lst false (.cons (.c (.int 0)) (.cons (.bin false .add (.c (.int 11)) (.bin false .mod (.v 1) (.bin false .pow (.c (.int 10)) (.c (.int 9))))) (.cons (.neg (.c (.int 1))) (.cons (.c (.int 11)) .nil))))) (.call false 9 (.cons (.v 1) (.cons (.c (.int 28)) (.cons (.c (.int 4)) .nil))) [])))
  (.cons (.ite (.cmp .eq (.call false 9 (.cons (.v 1) (.cons (.c (.int 29)) (.cons (.c (.int 2)) .nil))) []) (.c (.int 0))) (.cons (.seti (.v 0) (.v 3) (.tup (.cons (.v 7) (.cons (.v 5) (.cons (.v 6) .nil)))))
   .nil) (.cons (.seti (.v 0) (.v 3) (.tup (.cons (.v 4) (.cons (.ix (.lst false (.cons (.c (.int 0)) (.cons (.bin false .add (.c (.int 7)) (.bin false .mod (.v 1) (.bin false .pow (.c (.int 10)) (.c (.int 9))))) (.cons (.neg (.c (.int 1))) (.cons (.c (.int 7)) .nil))))) (.call false 9 (.cons (.v 1) (.cons (.c (.int 28)) (.cons (.c (.int 4)) .nil))) [])) (.cons (.v 6) .nil)))))
   .nil))
  (.cons (.ex (.mt false .append (.v 2) (.cons (.tup (.cons (.v 3) (.cons (.neg (.c (.int 1))) .nil))) .nil)))
  (.cons .retN
  .nil)))) .nil)
 (.cons (.asg (.nm 8) (.call false 9 (.cons (.v 1) (.cons (.c (.int 30)) (.cons (.bi false .len (.cons (.v 6) .nil)) .nil))) []))
 (.cons (.ite (.cmp .notin (.tup (.cons (.v 3) (.cons (.v 8) .nil))) (.v 2)) (.cons (.seti (.v 6) (.v 8) (.call false 14 (.cons (.ix (.v 2) (.c (.int 0))) (.cons (.v 3) (.cons (.ix (.v 6) (.v 8)) (.cons (.v 1) .nil)))) []))
  (.cons (.ex (.mt false .append (.v 2) (.cons (.tup (.cons (.v 3) (.cons (.v 8) .nil))) .nil)))
  .nil)) .nil)
 .nil)))))
def d__law_wrong : FD := ⟨3,9,b15⟩
def b16 : CB := (.cons (.asg (.nm 1) (.c .none))
 (.cons (.try_ (.cons (.xcall none false 7 (.cons (.v 0) .nil)) .nil) [4] (some 2) (.cons (.asg (.nm 3) (.lst false (.cons (.bi false (.isexn [] [4]) (.cons (.v 2) .nil)) (.cons (.bi false (.isexn [] [4]) (.cons (.v 2) .nil)) (.cons (.bi false (.isexn [] [4]) (.cons (.v 2) .nil)) (.cons (.bi false (.isexn [] [4]) (.cons (.v 2) .nil)) .nil))))))
   (.cons (.asg (.nm 3) (.bin false .add (.v 3) (.lst false (.cons (.bi false (.isexn [] [4]) (.cons (.v 2) .nil)) (.cons (.bi false (.isexn [] [4]) (.cons (.v 2) .nil)) (.cons (.not (.bi false (.isexn [4] []) (.cons (.v 2) .nil))) .nil))))))
   (.cons (.asg (.nm 1) (.lst true (.cons (.bi false (.isexn [4] []) (.cons (.v 2) .nil)) (.cons (.cmp .isin (.c (.bool true)) (.v 3)) (.cons (.v 2) .nil)))))
   .nil))))
 (.cons (.ite (.or (.cmp .is (.v 1) (.c .none)) (.or (.cmp .is (.ix (.v 1) (.c (.int 0))) (.c (.bool false))) (.ix (.v 1) (.c (.int 1))))) (.cons (.ret (.c .none))
  .nil) .nil)
 (.cons (.ret (.tup (.cons (.bi false (.xfld [4] "function") (.cons (.ix (.v 1) (.c (.int 2))) .nil)) (.cons (.bi false (.xfld [4] "edge") (.cons (.ix (.v 1) (.c (.int 2))) .nil)) .nil))))
 .nil))))
def d__law_refusal : FD := ⟨1,4,b16⟩
def b17 : CB := (.cons (.ret (.comp true (.tup (.cons (.v 1) (.cons (.v 2) (.cons (.bi true .list (.cons (.v 3) .nil)) .nil)))) (.tp (.cons (.nm 1) (.cons (.nm 2) (.cons (.nm 3) .nil)))) (.lst (.v 0)) (.c (.bool true)) [1,2,3]))
 .nil)
def d__law_copied : FD := ⟨1,4,b17⟩
def b18 : CB := (.cons (.asg (.nm 2) (.call true 17 (.cons (.v 0) .nil) []))
 (.cons (.asg (.nm 3) (.bin false .add (.c (.int 25)) (.call false 9 (.cons (.v 1) (.cons (.c (.int 32)) (.cons (.c (.int 8)) .nil))) [])))
 (.cons (.for_ (.nm 4) (.lst (.v 2)) (.cons (.asg (.nm 3) (.bin false .sub (.v 3) (.bi false .len (.cons (.ix (.v 4) (.c (.int 2))) .nil))))
  .nil))
 (.cons (.ex (.mt false .extend (.ix (.ix (.v 2) (.c (.int 0))) (.c (.int 2))) (.cons (.bin false .mul (.lst false (.cons (.tup (.cons (.c (.str "step")) (.cons (.c (.int 0)) (.cons (.c (.int 0)) (.cons (.c (.int 1)) (.cons (.bin false .mul (.tup (.cons (.c (.int 0)) .nil)) (.ix (.ix (.v 0) (.c (.int 0))) (.c (.int 1)))) .nil)))))) .nil)) (.v 3)) .nil)))
 (.cons (.asg (.nm 5) (.tup (.cons (.c (.str "step")) (.cons (.c (.int 0)) (.cons (.c (.int 0)) (.cons (.c (.int 0)) (.cons (.bin false .mul (.tup (.cons (.c (.int 0)) .nil)) (.ix (.ix (.v 0) (.c (.int 0))) (.c (.int 1)))) .nil)))))))
 (.cons (.ite (.cmp .eq (.call false 9 (.cons (.v 1) (.cons (.c (.int 33)) (.cons (.c (.int 2)) .nil))) []) (.c (.int 0))) (.cons (.ex (.mt false .insert (.ix (.ix (.v 2) (.c (.int 0))) (.c (.int 2))) (.cons (.call false 9 (.cons (.v 1) (.cons (.c (.int 34)) (.cons (.bin false .add (.bi false .len (.cons (.ix (.ix (.v 2) (.c (.int 0))) (.c (.int 2))) .nil)) (.c (.int 1))) .nil))) []) (.cons (.v 5) .nil))))
  .nil) .nil)
 (.cons (.asg (.nm 6) (.c (.int 0)))
 (.cons (.ite (.cmp .eq (.call false 9 (.cons (.v 1) (.cons (.c (.int 35)) (.cons (.c (.int 4)) .nil))) []) (.c (.int 0))) (.cons (.asg (.nm 7) (.call false 9 (.cons (.v 1) (.cons (.c (.int 36)) (.cons (.bi false .len (.cons (.v 2) .nil)) .nil))) []))
  (.cons (.seti (.v 2) (.v 7) (.tup (.cons (.c (.int 0)) (.cons (.ix (.ix (.v 2) (.v 7)) (.c (.int 1))) (.cons (.ix (.ix (.v 2) (.v 7)) (.c (.int 2))) .nil)))))
  (.cons (.ret (.cmp .eq (.call false 16 (.cons (.v 2) .nil) []) (.tup (.cons (.v 7) (.cons (.neg (.c (.int 1))) .nil)))))
  .nil))) .nil)
 (.cons (.for_ (.tp (.cons (.nm 7) (.cons (.nm 4) .nil))) (.enumL (.v 2)) (.cons (.for_ (.tp (.cons (.nm 8) (.cons (.nm 9) .nil))) (.enumL (.ix (.v 4) (.c (.int 2)))) (.cons (.asg (.nm 6) (.bin false .add (.v 6) (.c (.int 1))))
   (.cons (.ite (.or (.cmp .eq (.v 6) (.c (.int 25))) (.cmp .eq (.v 9) (.v 5))) (.cons (.ret (.cmp .eq (.call false 16 (.cons (.v 2) .nil) []) (.tup (.cons (.v 7) (.cons (.v 8) .nil)))))
    .nil) .nil)
   .nil)))
  .nil))
 (.cons (.ret (.c (.bool false)))
 .nil))))))))))
def d__law_too_many : FD := ⟨2,10,b18⟩
def b19 : CB := (.cons (.asg (.nm 1) (.call false 8 (.cons (.v 0) (.cons (.c (.int 0)) .nil)) []))
 (.cons (.asg (.nm 2) (.call false 12 (.cons (.slc false (.v 0) (.c (.int 3)) .skip) (.cons (.v 1) .nil)) []))
 (.cons (.asg (.nm 3) (.call true 17 (.cons (.v 2) .nil) []))
 (.cons (.asg (.nm 4) (.call true 7 (.cons (.v 3) .nil) []))
 (.cons (.ite (.or (.not (.bi false .islist (.cons (.v 4) .nil))) (.or (.cmp .ne (.v 4) (.v 2)) (.cmp .ne (.v 3) (.v 2)))) (.cons (.ret (.c (.bool false)))
  .nil) .nil)
 (.cons (.for_ (.nm 5) (.lst (.v 4)) (.cons (.ex (.mt false .append (.ix (.v 5) (.c (.int 2))) (.cons (.c (.int 1)) .nil)))
  .nil))
 (.cons (.ex (.mt false .append (.v 4) (.cons (.c (.int 2)) .nil)))
 (.cons (.asg (.nm 6) (.call false 8 (.cons (.v 0) (.cons (.c (.int 1)) .nil)) []))
 (.cons (.ite (.or (.cmp .ne (.v 3) (.v 2)) (.or (.cmp .ne (.call false 16 (.cons (.lst false .nil) .nil) []) (.tup (.cons (.neg (.c (.int 1))) (.cons (.neg (.c (.int 1))) .nil)))) (.cmp .ne (.call false 16 (.cons (.slc true (.bin true .mul (.v 3) (.c (.int 7))) .skip (.c (.int 7))) .nil) []) (.tup (.cons (.neg (.c (.int 1))) (.cons (.neg (.c (.int 1))) .nil)))))) (.cons (.ret (.c (.bool false)))
  .nil) .nil)
 (.cons (.ite (.or (.cmp .lt (.bi false .len (.cons (.bin true .mul (.v 3) (.c (.int 7))) .nil)) (.c (.int 7))) (.cmp .eq (.call false 9 (.cons (.v 6) (.cons (.c (.int 1)) (.cons (.c (.int 3)) .nil))) []) (.c (.int 0)))) (.cons (.ret (.c (.bool true)))
  .nil) .nil)
 (.cons (.ite (.not (.call false 18 (.cons (.v 2) (.cons (.v 6) .nil)) [])) (.cons (.ret (.c (.bool false)))
  .nil) .nil)
 (.cons (.asg (.nm 7) (.lst true (.cons (.v 2) .nil)))
 (.cons (.asg (.nm 8) (.call true 17 (.cons (.v 2) .nil) []))
 (.cons (.ex (.call true 15 (.cons (.v 8) (.cons (.v 6) (.cons (.v 7) .nil))) []))
 (.cons (.ite (.cmp .eq (.call false 9 (.cons (.v 6) (.cons (.c (.int 2)) (.cons (.c (.int 3)) .nil))) []) (.c (.int 0))) (.cons (.ex (.call true 15 (.cons (.v 8) (.cons (.call false 8 (.cons (.v 0) (.cons (.c (.int 2)) .nil)) []) (.cons (.v 7) .nil))) []))
  .nil) .nil)
 (.cons (.asg (.nm 9) (.comp false (.v 11) (.tp (.cons (.nm 11) (.cons (.nm 12) .nil))) (.lst (.slc false (.v 7) (.c (.int 1)) .skip)) (.cmp .eq (.v 12) (.neg (.c (.int 1)))) [11,12]))
 (.cons (.asg (.nm 10) (.bi false .min1P (.cons (.slc false (.v 7) (.c (.int 1)) .skip) .nil)))
 (.cons (.ite (.cmp .ne (.v 9) (.lst false .nil)) (.cons (.asg (.nm 10) (.tup (.cons (.bi false .min1 (.cons (.v 9) .nil)) (.cons (.neg (.c (.int 1))) .nil))))
  .nil) .nil)
 (.cons (.ret (.and (.cmp .eq (.call false 16 (.cons (.v 8) .nil) []) (.v 10)) (.cmp .eq (.call true 7 (.cons (.v 3) .nil) []) (.v 2))))
 .nil)))))))))))))))))))
def d_law : FD := ⟨1,13,b19⟩
def G : Pg := ⟨fun f => match f with
  | 5 => some d_is_table
  | 6 => some d_is_edge
  | 7 => some d_checked
  | 8 => some d__law_cell_at
  | 9 => some d__law_pick
  | 10 => some d__law_table
  | 11 => some d__law_edge
  | 12 => some d__law_chart
  | 13 => some d__law_spoilt_mask
  | 14 => some d__law_spoilt_edge
  | 15 => some d__law_wrong
  | 16 => some d__law_refusal
  | 17 => some d__law_copied
  | 18 => some d__law_too_many
  | 19 => some d_law
  | _ => none,fun k => match k with
  | 4 => some (.int 1000000000000000000)
  | 3 => some (.int 24)
  | 0 => some (.int 6)
  | 1 => some (.int 6)
  | 2 => some (.int 10)
  | _ => none⟩
theorem G5 : G.defs 5 = some d_is_table := rfl
theorem G6 : G.defs 6 = some d_is_edge := rfl
theorem G7 : G.defs 7 = some d_checked := rfl
theorem G8 : G.defs 8 = some d__law_cell_at := rfl
theorem G9 : G.defs 9 = some d__law_pick := rfl
theorem G10 : G.defs 10 = some d__law_table := rfl
theorem G11 : G.defs 11 = some d__law_edge := rfl
theorem G12 : G.defs 12 = some d__law_chart := rfl
theorem G13 : G.defs 13 = some d__law_spoilt_mask := rfl
theorem G14 : G.defs 14 = some d__law_spoilt_edge := rfl
theorem G15 : G.defs 15 = some d__law_wrong := rfl
theorem G16 : G.defs 16 = some d__law_refusal := rfl
theorem G17 : G.defs 17 = some d__law_copied := rfl
theorem G18 : G.defs 18 = some d__law_too_many := rfl
theorem G19 : G.defs 19 = some d_law := rfl
end Lk21
namespace Lk21
open PySem Y
inductive XE where
  | st (p q c : Int) (t : List Int)
  | ca (p q c g : Int) (a b t : List Int)
def tD (t : List Int) : D := .tuple (t.map .int)
def XE.d : XE → D
  | .st p q c t => .tuple [.str "step",.int p,.int q,.int c,tD t]
  | .ca p q c g a b t => .tuple [.str "call",.int p,.int q,.int c,.int g,tD a,tD b,tD t]
abbrev CX := List (Int × Int × List XE)
def cxSz (c : CX) : Sz := c.map fun x => (x.1,x.2.1)
def cxD (c : CX) : List D := c.map fun x => .tuple [.int x.1,.int x.2.1,.list (x.2.2.map XE.d)]
def manyX (c : CX) : Nat := (c.map fun x => x.2.2.length).sum
def tabB (t : List Int) (m b : Int) : Bool := decide ((t.length : Int) = m) && t.all fun r => decide (0 ≤ r ∧ r < 2 ^ b.toNat)
def headB (P p q c : Int) : Bool := decide (0 ≤ p ∧ p < P ∧ 0 ≤ q ∧ q < P ∧ 1 ≤ c ∧ c ≤ 1000000000000000000)
def edgB (s : Sz) (f : Nat) : XE → Bool
  | .st p q c t => match s[f]? with
    | some (P,n) => headB P p q c && tabB t n n
    | none => false
  | .ca p q c g a b t => match s[f]? with
    | some (P,n) => headB P p q c && (decide (0 ≤ g ∧ g < s.length) && match s[g.toNat]? with
      | some (_,m) => tabB a n m && tabB b m n && tabB t n n
      | none => false)
    | none => false
theorem sz_b {s : Sz} (hs : SzOk s) {f : Nat} {P n : Int} (h : s[f]? = some (P,n)) : 1 ≤ P ∧ P ≤ 10 ∧ 1 ≤ n ∧ n ≤ 6 := hs.2 _ (List.mem_of_getElem? h)
theorem a5 (a b c d e : D) : L2.atI [a,b,c,d,e] 0 = some a ∧ L2.atI [a,b,c,d,e] 1 = some b ∧ L2.atI [a,b,c,d,e] 2 = some c ∧ L2.atI [a,b,c,d,e] 3 = some d ∧ L2.atI [a,b,c,d,e] 4 = some e := ⟨rfl,rfl,rfl,rfl,rfl⟩
theorem a8 (a b c d e f g h : D) : L2.atI [a,b,c,d,e,f,g,h] 0 = some a ∧ L2.atI [a,b,c,d,e,f,g,h] 1 = some b ∧ L2.atI [a,b,c,d,e,f,g,h] 2 = some c ∧ L2.atI [a,b,c,d,e,f,g,h] 3 = some d ∧ L2.atI [a,b,c,d,e,f,g,h] 4 = some e ∧ L2.atI [a,b,c,d,e,f,g,h] 5 = some f ∧ L2.atI [a,b,c,d,e,f,g,h] 6 = some g ∧ L2.atI [a,b,c,d,e,f,g,h] 7 = some h := ⟨rfl,rfl,rfl,rfl,rfl,rfl,rfl,rfl⟩
def ChV (O T : Cs) (u : U) (s : Sz) : Prop := ∀ f : Int,0 ≤ f → f < s.length → ∃ x w P n,s[f.toNat]? = some (P,n) ∧ ixU O u (.d (.int f)) T = some x ∧ ixU O x (.d (.int 0)) T = some (.d (.int P)) ∧ ixU O x (.d (.int 1)) T = some (.d (.int n)) ∧ seqT x = some [.d (.int P),.d (.int n),w]
theorem istable (n : Nat) (O : Cs) (t : List Int) (a b : Int) (b0 : 0 ≤ b) (b6 : b ≤ 6) : Y.run G (n + 1) O 5 [.d (tD t),.d (.int a),.d (.int b)] [] = .ok (.d (.bool (tabB t a b))) [] := by
  refine Gv.eq (run_wp G5 rfl ?_)
  have hb0 : 0 ≤ b ∧ b ≤ 1000 := by omega
  have hl : lenB O [] (.d (tD t)) = .ok (.d (.int t.length)) [] := by
    unfold tD
    simp
  have hsq : seqT (.d (tD t)) = some ((t.map PyData.int).map .d) := rfl
  obtain ⟨u,hu⟩ : ∃ u : U,u = .d (tD t) := ⟨_,rfl⟩
  rw [← hu] at hl hsq ⊢
  generalize hlen : (t.length : Int) = ln at hl
  simp only [b5]
  by_cases hnl : ln = a
  · subst hnl
    simp [hl]
    refine wp_for ⟨(t.map PyData.int).map .d,none,[]⟩ [] (fun i ρ T => T = [] ∧ (∀ j r,j < i → t[j]? = some r → 0 ≤ r ∧ r < 2 ^ b.toNat) ∧ ∃ x,ρ = [some u,some (.d (.int ln)),some (.d (.int b)),x]) ?_ ?_ (by simp) ?_ ?_
    · simp [hsq]
    · exact ⟨rfl,fun j r h => absurd h (Nat.not_lt_zero _),none,rfl⟩
    · rintro i v hv ρ T ⟨rfl,ha,x,rfl⟩
      rw [List.getElem?_map,List.getElem?_map,Option.map_eq_some_iff] at hv
      obtain ⟨d,hd,rfl⟩ := hv
      rw [Option.map_eq_some_iff] at hd
      obtain ⟨r,hr,rfl⟩ := hd
      have hF : ¬ (0 ≤ r ∧ r < 2 ^ b.toNat) → tabB t ln b = false := fun hn => by
        unfold tabB
        rw [Bool.and_eq_false_iff]
        right
        rw [List.all_eq_false]
        exact ⟨r,List.mem_of_getElem? hr,by simpa using hn⟩
      have hN : 0 ≤ r ∧ r < 2 ^ b.toNat → ∀ j r',j < i + 1 → t[j]? = some r' → 0 ≤ r' ∧ r' < 2 ^ b.toNat := fun hn j r' hj e => by
        rcases Nat.lt_or_ge j i with h | h
        · exact ha j r' h e
        · have : j = i := by omega
          subst this
          cases hr.symm.trans e
          exact hn
      refine ⟨_,rfl, ?_⟩
      clear ha hr
      by_cases h1 : 0 ≤ r
      · by_cases h2 : r < 2 ^ b.toNat
        · simp [hb0,h1,h2]
          exact hN ⟨h1,h2⟩
        · have hF := hF fun z => h2 z.2
          simp [hb0,h1,h2,hF]
      · have hF := hF fun z => h1 z.1
        simp [hb0,h1,hF]
    · rintro ρ T ⟨rfl,ha,x,rfl⟩
      have hT : tabB t ln b = true := by
        unfold tabB
        rw [Bool.and_eq_true,decide_eq_true_eq,List.all_eq_true]
        refine ⟨hlen,fun r hr => ?_⟩
        obtain ⟨j,hj⟩ := List.getElem?_of_mem hr
        have hlt := (List.getElem?_eq_some_iff.mp hj).1
        exact decide_eq_true (ha j r (by simpa using hlt) hj)
      simp [hT]
  · have hF : tabB t a b = false := by
      unfold tabB
      rw [hlen,decide_eq_false hnl]
      rfl
    simp [hl,hnl,hF]
theorem istable_c (n : Nat) (O T : Cs) (t : List Int) (a b : Int) (b0 : 0 ≤ b) (b6 : b ≤ 6) : callP (cn G (n + 1)) O 5 [.d (tD t),.d (.int a),.d (.int b)] T = .ok (.d (.bool (tabB t a b))) T := callP_r O T (istable n (O ++ T) t a b b0 b6)
theorem isedge (n : Nat) (O : Cs) (u : U) (s : Sz) (hs : SzOk s) (f : Int) (f0 : 0 ≤ f) (f1 : f < s.length) (e : XE) (hv : ChV O [] u s) (hl : lenB O [] u = .ok (.d (.int s.length)) []) : Y.run G (n + 2) O 6 [u,.d (.int f),.d e.d] [] = .ok (.d (.bool (edgB s f.toNat e))) [] := by
  refine Gv.eq (run_wp G6 rfl ?_)
  obtain ⟨x,w,P,m,hf,hx,hx0,hx1,hsq⟩ := hv f f0 f1
  have hb := sz_b hs hf
  have ht := istable_c n O []
  have hg4 : (cn G (n + 1)).glob 4 = some (.int 1000000000000000000) := rfl
  generalize cn G (n + 1) = C at ht hg4 ⊢
  cases e with
  | st p q c t =>
    have ht1 := ht t m m (by omega) (by omega)
    have hE : edgB s f.toNat (.st p q c t) = (headB P p q c && tabB t m m) := by
      simp only [edgB,hf]
    rw [hE]
    unfold headB
    generalize tabB t m m = tb at *
    simp only [b6,XE.d]
    by_cases h1 : 0 ≤ p
    case neg => simp [hx,hsq,a5,hg4,h1]
    by_cases h2 : p < P
    case neg => simp [hx,hsq,a5,hg4,h1,h2]
    by_cases h3 : 0 ≤ q
    case neg => simp [hx,hsq,a5,hg4,h1,h2,h3]
    by_cases h4 : q < P
    case neg => simp [hx,hsq,a5,hg4,h1,h2,h3,h4]
    by_cases h5 : 1 ≤ c
    case neg => simp [hx,hsq,a5,hg4,h1,h2,h3,h4,h5]
    by_cases h6 : c ≤ 1000000000000000000
    case neg => simp [hx,hsq,a5,hg4,h1,h2,h3,h4,h5,h6]
    simp [hx,hsq,a5,Y.step_same,ht1,hg4,h1,h2,h3,h4,h5,h6]
  | ca p q c g a b t =>
    have hE : edgB s f.toNat (.ca p q c g a b t) = (headB P p q c && (decide (0 ≤ g ∧ g < s.length) && match s[g.toNat]? with
      | some (_,k) => tabB a m k && tabB b k m && tabB t m m
      | none => false)) := by
      simp only [edgB,hf]
    rw [hE]
    unfold headB
    simp only [b6,XE.d]
    by_cases h1 : 0 ≤ p
    case neg => simp [hx,hsq,a8,hg4,h1]
    by_cases h2 : p < P
    case neg => simp [hx,hsq,a8,hg4,h1,h2]
    by_cases h3 : 0 ≤ q
    case neg => simp [hx,hsq,a8,hg4,h1,h2,h3]
    by_cases h4 : q < P
    case neg => simp [hx,hsq,a8,hg4,h1,h2,h3,h4]
    by_cases h5 : 1 ≤ c
    case neg => simp [hx,hsq,a8,hg4,h1,h2,h3,h4,h5]
    by_cases h6 : c ≤ 1000000000000000000
    case neg => simp [hx,hsq,a8,hg4,h1,h2,h3,h4,h5,h6]
    by_cases g0 : 0 ≤ g
    case neg => simp [hx,hsq,a8,call_step,hg4,h1,h2,h3,h4,h5,h6,hl,g0]
    by_cases g1 : g < s.length
    case neg => simp [hx,hsq,a8,call_step,hg4,h1,h2,h3,h4,h5,h6,hl,g0,g1]
    obtain ⟨x',w',Q',k,hg',hy,hy0,hy1,_⟩ := hv g g0 g1
    have hbg := sz_b hs hg'
    have ht1 := ht t m m (by omega) (by omega)
    have ht2 := ht a m k (by omega) (by omega)
    have ht3 := ht b k m (by omega) (by omega)
    rw [hg']
    simp only
    generalize tabB t m m = tb1 at *
    generalize tabB a m k = tb2 at *
    generalize tabB b k m = tb3 at *
    cases tb2
    · simp [hx,hsq,a8,call_step,ht1,ht2,ht3,hy,hy1,hg4,h1,h2,h3,h4,h5,h6,g0,g1,hl]
    · cases tb3
      · simp [hx,hsq,a8,call_step,ht1,ht2,ht3,hy,hy1,hg4,h1,h2,h3,h4,h5,h6,g0,g1,hl]
      · simp [hx,hsq,a8,call_step,ht1,ht2,ht3,hy,hy1,hg4,h1,h2,h3,h4,h5,h6,g0,g1,hl]
end Lk21
namespace Lk21
open PySem Y
def esD (x : Int × Int × List XE) : List D := x.2.2.map XE.d
def fnD (x : Int × Int × List XE) : D := .tuple [.int x.1,.int x.2.1,.list (esD x)]
def ItemR (O T : Cs) (x : Int × Int × List XE) (w : U) : Prop := w = .d (fnD x) ∨ ∃ j,w = .tup [.d (.int x.1),.d (.int x.2.1),.ref j] ∧ getC O T j = some (.lst (esD x))
def ChRep (O T : Cs) (u : U) (ch : CX) : Prop := u = .d (.list (cxD ch)) ∨ ∃ k rows,u = .ref k ∧ getC O T k = some (.lstU rows) ∧ rows.length = ch.length ∧ ∀ (f : Nat) x,ch[f]? = some x → ∃ j,rows[f]? = some (.tup [.d (.int x.1),.d (.int x.2.1),.ref j]) ∧ getC O T j = some (.lst (esD x))
def Ext (O T O' T' : Cs) : Prop := ∀ i c,getC O T i = some c → getC O' T' i = some c
theorem ItemR.mono {O T O' T' : Cs} {x : Int × Int × List XE} {w : U} (h : ItemR O T x w) (hm : Ext O T O' T') : ItemR O' T' x w := by
  rcases h with rfl | ⟨j,rfl,hj⟩
  · exact .inl rfl
  · exact .inr ⟨j,rfl,hm _ _ hj⟩
theorem ChRep.mono {O T O' T' : Cs} {ch : CX} {u : U} (h : ChRep O T u ch) (hm : Ext O T O' T') : ChRep O' T' u ch := by
  rcases h with rfl | ⟨k,rows,rfl,hk,hl,hr⟩
  · exact .inl rfl
  · refine .inr ⟨k,rows,rfl,hm _ _ hk,hl,fun f x hx => ?_⟩
    obtain ⟨j,h1,h2⟩ := hr f x hx
    exact ⟨j,h1,hm _ _ h2⟩
theorem ext_app (O T S : Cs) : Ext O T O (T ++ S) := fun _ _ h => getC_app h
theorem ext_O (O T : Cs) : Ext O T (O ++ T) [] := fun i c h => by rw [getC_O]; exact h
theorem Ext.trans {O T O' T' O'' T'' : Cs} (h : Ext O T O' T') (h' : Ext O' T' O'' T'') : Ext O T O'' T'' := fun i c e => h' i c (h i c e)
theorem ChRep.seq {O T : Cs} {ch : CX} {u : U} (h : ChRep O T u ch) : ∃ us,seqL O T u = some us ∧ us.length = ch.length ∧ (∀ (f : Nat) x,ch[f]? = some x → ∃ w,us[f]? = some w ∧ ItemR O T x w) ∧ ∀ T',Ext O T O T' → sameW O T T' (watch u) = true := by
  rcases h with rfl | ⟨k,rows,rfl,hk,hl,hr⟩
  · refine ⟨(cxD ch).map .d,rfl,by simp [cxD],fun f x hx => ⟨.d (fnD x), ?_,.inl rfl⟩,fun T' _ => rfl⟩
    simp [cxD,hx,fnD,esD]
  · refine ⟨rows,by simp [hk],hl,fun f x hx => ?_,fun T' hm => sameW_refl hk (hm _ _ hk) (.inr (.inl ⟨_,rfl⟩))⟩
    obtain ⟨j,h1,h2⟩ := hr f x hx
    exact ⟨_,h1,.inr ⟨j,rfl,h2⟩⟩
theorem ItemR.at {O T : Cs} {x : Int × Int × List XE} {w : U} (h : ItemR O T x w) : ixU O w (.d (.int 0)) T = some (.d (.int x.1)) ∧ ixU O w (.d (.int 1)) T = some (.d (.int x.2.1)) ∧ (∃ v,seqT w = some [.d (.int x.1),.d (.int x.2.1),v] ∧ ixU O w (.d (.int 2)) T = some v ∧ seqL O T v = some ((esD x).map .d) ∧ (v = .d (.list (esD x)) ∨ ∃ j,v = .ref j ∧ getC O T j = some (.lst (esD x)))) ∧ ∀ f : Int,seqT (mkT [.d (.int f),w]) = some [.d (.int f),w] := by
  rcases h with rfl | ⟨j,rfl,hj⟩
  · exact ⟨rfl,rfl,⟨.d (.list (esD x)),rfl,rfl,rfl,.inl rfl⟩,fun f => rfl⟩
  · exact ⟨rfl,rfl,⟨.ref j,rfl,rfl,by simp [hj],.inr ⟨j,rfl,hj⟩⟩,fun f => rfl⟩
theorem ChRep.v {O T : Cs} {ch : CX} {u : U} (h : ChRep O T u ch) : ChV O T u (cxSz ch) := by
  intro f f0 f1
  have hlt : f.toNat < ch.length := by
    have : (cxSz ch).length = ch.length := by simp [cxSz]
    omega
  have hx : ch[f.toNat]? = some ch[f.toNat] := List.getElem?_eq_getElem hlt
  generalize ch[f.toNat] = x at hx
  have hs : (cxSz ch)[f.toNat]? = some (x.1,x.2.1) := by simp [cxSz,hx]
  rcases h with rfl | ⟨k,rows,rfl,hk,hl,hr⟩
  · have hi : ItemR O T x (.d (fnD x)) := .inl rfl
    obtain ⟨h0,h1,⟨v,h2,_⟩,_⟩ := hi.at
    refine ⟨_,v,x.1,x.2.1,hs, ?_,h0,h1,h2⟩
    rw [ixU_L,atI_nat _ _ f0 (by simp [cxD]; omega)]
    simp [cxD,hx,fnD,esD]
  · obtain ⟨j,h1,h2⟩ := hr _ x hx
    have hi : ItemR O T x (.tup [.d (.int x.1),.d (.int x.2.1),.ref j]) := .inr ⟨j,rfl,h2⟩
    obtain ⟨g0,g1,⟨v,g2,_⟩,_⟩ := hi.at
    refine ⟨_,v,x.1,x.2.1,hs, ?_,g0,g1,g2⟩
    refine ixU_atU hk ?_
    rw [atI_nat _ _ f0 (by omega)]
    exact h1
theorem ChRep.len {O T : Cs} {ch : CX} {u : U} (h : ChRep O T u ch) : lenB O T u = .ok (.d (.int ch.length)) T := by
  rcases h with rfl | ⟨k,rows,rfl,hk,hl,hr⟩
  · rw [lenB_L]
    simp [cxD]
  · rw [lenB_refU hk,hl]
theorem ChRep.toD {O T : Cs} {ch : CX} {u : U} (h : ChRep O T u ch) : Y.toD O T 3 u = some (.list (cxD ch)) := by
  rcases h with rfl | ⟨k,rows,rfl,hk,hl,hr⟩
  · rfl
  · rw [toD_refS,hk]
    have : toDs O T 2 rows = some (cxD ch) := by
      clear hk
      induction ch generalizing rows with
      | nil =>
        have : rows = [] := List.eq_nil_of_length_eq_zero hl
        subst this
        rfl
      | cons x ch ih =>
        cases rows with
        | nil => simp at hl
        | cons r rows =>
          obtain ⟨j,h1,h2⟩ := hr 0 x rfl
          simp only [List.getElem?_cons_zero,Option.some.injEq] at h1
          subst h1
          have hh := ih rows (by simpa using hl) (fun f y hy => hr (f + 1) y (by simpa using hy))
          have e : Y.toD O T 2 (.tup [.d (.int x.1),.d (.int x.2.1),.ref j]) = some (fnD x) := by
            rw [toD_tup,toDs_cons,toDs_cons,toDs_cons,toDs_nil,toD_refS,h2]
            rfl
          rw [toDs_cons,e,hh]
          rfl
    show (toDs O T 2 rows).map PyData.list = _
    rw [this]
    rfl
def rowsOf (b : Nat) (c : CX) : List U := c.mapIdx fun i x => .tup [.d (.int x.1),.d (.int x.2.1),.ref (b + i)]
def Lay (k : Nat) (c : CX) : Cs := .lstU (rowsOf (k + 1) c) :: c.map fun x => .lst (esD x)
theorem rows_len (b : Nat) (c : CX) : (rowsOf b c).length = c.length := by simp [rowsOf]
theorem rows_S (b : Nat) (c : CX) (i : Nat) (x : Int × Int × List XE) (h : c[i]? = some x) : (rowsOf b c).take (i + 1) = (rowsOf b c).take i ++ [.tup [.d (.int x.1),.d (.int x.2.1),.ref (b + i)]] := by
  rw [List.take_add_one]
  unfold rowsOf
  rw [List.getElem?_mapIdx,h]
  rfl
theorem lay_rep (O T S : Cs) (c : CX) : ChRep O (T ++ Lay (O.length + T.length) c ++ S) (.ref (O.length + T.length)) c := by
  refine ChRep.mono (T := T ++ Lay (O.length + T.length) c) ?_ (ext_app _ _ _)
  refine .inr ⟨O.length + T.length,rowsOf (O.length + T.length + 1) c,rfl, ?_,rows_len _ _,fun f x hx => ⟨O.length + T.length + 1 + f, ?_, ?_⟩⟩
  · rw [getC_eq,← List.append_assoc,List.getElem?_append_right (by simp)]
    simp [Lay]
  · unfold rowsOf
    rw [List.getElem?_mapIdx,hx]
    rfl
  · rw [getC_eq,← List.append_assoc,List.getElem?_append_right (by simp; omega)]
    have : O.length + T.length + 1 + f - (O ++ T).length = f + 1 := by simp; omega
    rw [this]
    simp [Lay,hx]
theorem copy_live {C : Cn} {O T : Cs} {c : CX} {u : U} {ρ : Rho} {i : Nat} {g : Tg} {own : List Nat} {elt : CE} (h : ChRep O T u c) (hi : ρ[i]? = some (some u)) (h1 : 1 ≤ c.length) (h6 : c.length ≤ 1000)
    (he : ∀ S w x,ItemR O (T ++ S) x w → ∃ ρ1,asgT O (T ++ S) g w (wipeR ρ own) = some ρ1 ∧ den C O ρ1 elt (T ++ S) = .ok (.tup [.d (.int x.1),.d (.int x.2.1),.ref (O.length + (T ++ S).length)]) (T ++ S ++ [.lst (esD x)])) :
    den C O ρ (.comp true elt g (.lst (.v i)) (.c (.bool true)) own) T = .ok (.ref (O.length + T.length)) (T ++ Lay (O.length + T.length) c) := by
  obtain ⟨us,hseq,hul,hit,hsw⟩ := h.seq
  have k := comp_st (C := C) (O := O) (T := T) (T0 := T) (ρ := ρ) (elt := elt) (t := .c (.bool true)) (g := g) (it := .lst (.v i)) (own := own) (us := us) (w := watch u) (tt := T) (live := true)
    (fun j => T ++ .lstU ((rowsOf (O.length + T.length + 1) c).take j) :: (c.take j).map fun x => Cell.lst (esD x)) (by
      rw [denI_lst,den_v,hi]
      simp [hseq]) (by simp) (by
      intro j w hw
      have hj : j < c.length := by
        have := (List.getElem?_eq_some_iff.mp hw).1
        omega
      have hx : c[j]? = some c[j] := List.getElem?_eq_getElem hj
      generalize c[j] = x at hx
      obtain ⟨w',hw',hI⟩ := hit j x hx
      cases hw.symm.trans hw'
      refine ⟨hsw _ (ext_app _ _ _), ?_⟩
      obtain ⟨ρ1,e1,e2⟩ := he (.lstU ((rowsOf (O.length + T.length + 1) c).take j) :: (c.take j).map fun x => Cell.lst (esD x)) w x (hI.mono (ext_app _ _ _))
      refine ⟨ρ1,e1,by simp,_,_,e2, ?_⟩
      have hl : (T ++ (.lstU ((rowsOf (O.length + T.length + 1) c).take j) :: (c.take j).map fun x => Cell.lst (esD x))).length = T.length + 1 + j := by
        simp
        omega
      rw [hl,putC_at (acc := (rowsOf (O.length + T.length + 1) c).take j) (by simp) (by simp; omega)]
      congr 1
      rw [rows_S _ c j x hx,List.take_add_one,hx]
      simp [List.set_append,Nat.add_assoc]) (hsw _ (ext_app _ _ _))
  rw [k]
  have e1 : (rowsOf (O.length + T.length + 1) c).take us.length = rowsOf (O.length + T.length + 1) c := List.take_of_length_le (by rw [rows_len]; omega)
  have e2 : c.take us.length = c := List.take_of_length_le (by omega)
  simp only [e1,e2]
  have e5 : (T ++ .lstU (rowsOf (O.length + T.length + 1) c) :: c.map fun x => Cell.lst (esD x))[T.length]? = some (.lstU (rowsOf (O.length + T.length + 1) c)) := by simp
  unfold compE
  simp only [e5]
  rw [if_pos trivial]
  have e6 : Y.cellOf (rowsOf (O.length + T.length + 1) c) = .lstU (rowsOf (O.length + T.length + 1) c) := by
    cases c with
    | nil => simp at h1
    | cons x r =>
      unfold Y.cellOf rowsOf
      rw [List.mapIdx_cons]
      rfl
  rw [e6]
  simp [Lay,List.set_append]
theorem listB_live {O T : Cs} {v : U} {ds : List D} (h : seqL O T v = some (ds.map .d)) : listB O true T v = .ok (.ref (O.length + T.length)) (T ++ [.lst ds]) := by
  unfold listB seqA
  simp [h,mkL]
end Lk21
namespace Lk21
open PySem Y Y.S
def szB (x : Int × Int × List XE) : Prop := 1 ≤ x.1 ∧ x.1 ≤ 10 ∧ 1 ≤ x.2.1 ∧ x.2.1 ≤ 6
def pre (c : CX) (i : Nat) : Nat := ((c.take i).map fun x => x.2.2.length).sum
structure Good (c : CX) : Prop where
  s : SzOk (cxSz c)
  e : ∀ (i : Nat) x,c[i]? = some x → ∀ ed ∈ x.2.2,edgB (cxSz c) i ed = true
  m : manyX c ≤ 24
def Bef (c : CX) (i j : Nat) : Prop := ∀ (i' : Nat) x' (j' : Nat) e',c[i']? = some x' → x'.2.2[j']? = some e' → (i' < i ∨ i' = i ∧ j' < j) → edgB (cxSz c) i' e' = true
inductive First (c : CX) : Int → Int → Prop
  | len : ¬ (1 ≤ c.length ∧ c.length ≤ 6) → First c (-1) (-1)
  | sz (i : Nat) (x : Int × Int × List XE) : 1 ≤ c.length ∧ c.length ≤ 6 → c[i]? = some x → ¬ szB x → (∀ (j : Nat) y,j < i → c[j]? = some y → szB y) → First c i (-1)
  | ed (i : Nat) (x : Int × Int × List XE) (j : Nat) (e : XE) : SzOk (cxSz c) → c[i]? = some x → x.2.2[j]? = some e → Bef c i j → pre c i + j ≤ 24 → (24 < pre c i + j + 1 ∨ edgB (cxSz c) i e = false) → First c i j
theorem sz_len (c : CX) : (cxSz c).length = c.length := by simp [cxSz]
theorem szOk_iff (c : CX) : SzOk (cxSz c) ↔ (1 ≤ c.length ∧ c.length ≤ 6) ∧ ∀ (i : Nat) x,c[i]? = some x → szB x := by
  unfold SzOk
  rw [sz_len]
  refine and_congr_right fun _ => ⟨fun h i x hx => h (x.1,x.2.1) (List.mem_map.mpr ⟨x,List.mem_of_getElem? hx,rfl⟩),fun h p hp => ?_⟩
  obtain ⟨x,hx,rfl⟩ := List.mem_map.mp hp
  obtain ⟨i,hi⟩ := List.getElem?_of_mem hx
  exact h i x hi
theorem pre_le (c : CX) (i : Nat) : pre c i ≤ manyX c := by
  unfold manyX pre
  have : (c.map fun x => x.2.2.length).sum = ((c.take i).map fun x => x.2.2.length).sum + ((c.drop i).map fun x => x.2.2.length).sum := by
    rw [← List.sum_append,← List.map_append,List.take_append_drop]
  omega
theorem pre_S {c : CX} {i : Nat} {x : Int × Int × List XE} (h : c[i]? = some x) : pre c (i + 1) = pre c i + x.2.2.length := by
  unfold pre
  rw [List.take_add_one,h]
  simp
theorem pre_mono (c : CX) (i k : Nat) : pre c i ≤ pre c (i + k) := by
  induction k with
  | zero => exact Nat.le_refl _
  | succ k ih =>
    rw [← Nat.add_assoc]
    cases h : c[i + k]? with
    | none =>
      have : pre c (i + k + 1) = pre c (i + k) := by
        unfold pre
        rw [List.take_add_one,h]
        simp
      omega
    | some x =>
      have := pre_S h
      omega
theorem ed_ne {c : CX} {i i' j j' : Nat} {x : Int × Int × List XE} {e : XE} (hx : c[i]? = some x) (he : x.2.2[j]? = some e) (hb : 24 < pre c i + j + 1 ∨ edgB (cxSz c) i e = false) (hbf : Bef c i' j') (hp : pre c i' + j' ≤ 24) (hlt : i < i' ∨ i = i' ∧ j < j') : False := by
  have h1 := hbf i x j e hx he hlt
  rcases hb with hb | hb
  · have hj := (List.getElem?_eq_some_iff.mp he).1
    rcases hlt with h | ⟨rfl,h⟩
    · have h2 := pre_S hx
      have h3 := pre_mono c (i + 1) (i' - (i + 1))
      have : i + 1 + (i' - (i + 1)) = i' := by omega
      rw [this] at h3
      omega
    · omega
  · rw [h1] at hb
    cases hb
theorem First.det {c : CX} {f e f' e' : Int} (h : First c f e) (h' : First c f' e') : f = f' ∧ e = e' := by
  cases h with
  | len hn =>
    cases h' with
    | len _ => exact ⟨rfl,rfl⟩
    | sz i x hl _ _ _ => exact absurd hl hn
    | ed i x j ed hs _ _ _ _ _ => exact absurd ((szOk_iff c).mp hs).1 hn
  | sz i x hl hx hb ha =>
    cases h' with
    | len hn => exact absurd hl hn
    | sz i' x' _ hx' hb' ha' =>
      rcases Nat.lt_trichotomy i i' with h | rfl | h
      · exact absurd (ha' i x h hx) hb
      · exact ⟨rfl,rfl⟩
      · exact absurd (ha i' x' h hx') hb'
    | ed i' x' j ed hs _ _ _ _ _ => exact absurd (((szOk_iff c).mp hs).2 i x hx) hb
  | ed i x j ed hs hx he hbf hp hb =>
    cases h' with
    | len hn => exact absurd ((szOk_iff c).mp hs).1 hn
    | sz i' x' _ hx' hb' _ => exact absurd (((szOk_iff c).mp hs).2 i' x' hx') hb'
    | ed i' x' j' ed' hs' hx' he' hbf' hp' hb' =>
      rcases Nat.lt_trichotomy i i' with h | rfl | h
      · exact (ed_ne hx he hb hbf' hp' (.inl h)).elim
      · rcases Nat.lt_trichotomy j j' with h | rfl | h
        · exact (ed_ne hx he hb hbf' hp' (.inr ⟨rfl,h⟩)).elim
        · exact ⟨rfl,rfl⟩
        · exact (ed_ne hx' he' hb' hbf hp (.inr ⟨rfl,h⟩)).elim
      · exact (ed_ne hx' he' hb' hbf hp (.inl h)).elim
theorem First.bad {c : CX} {f e : Int} (h : First c f e) (g : Good c) : False := by
  cases h with
  | len hn => exact hn ((szOk_iff c).mp g.s).1
  | sz i x hl hx hb ha => exact hb (((szOk_iff c).mp g.s).2 i x hx)
  | ed i x j ed hs hx he hbf hp hb =>
    rcases hb with hb | hb
    · have hj := (List.getElem?_eq_some_iff.mp he).1
      have h2 := pre_S hx
      have h3 := pre_le c (i + 1)
      have := g.m
      omega
    · rw [g.e i x hx ed (List.mem_of_getElem? he)] at hb
      cases hb
def exF (f e : Int) : List (Str × D) := [("edge",.int e),("function",.int f)]
section
variable {C : Cn} {O T : Cs} {ρ : Rho} {a b e : CE} {x y z : Int} {p q : Bool}
theorem nt_ll (ha : den C O ρ a T = .ok (.d (.int x)) T) (hb : den C O ρ b T = .ok (.d (.int y)) T) (he : den C O ρ e T = .ok (.d (.int z)) T) : den C O ρ (.not (.chain .le .le a b e)) T = .ok (.d (.bool (!decide (x ≤ y ∧ y ≤ z)))) T := by
  by_cases h1 : x ≤ y <;> by_cases h2 : y ≤ z <;> simp [ha,hb,he,h1,h2]
theorem or_b (ha : den C O ρ a T = .ok (.d (.bool p)) T) (hb : p = false → den C O ρ b T = .ok (.d (.bool q)) T) : den C O ρ (.or a b) T = .ok (.d (.bool (p || q))) T := by
  cases p with
  | true => simp [ha]
  | false => simp [ha,hb]
end
def b7R : CB := (.cons (.raise 4 ["function", "edge"] (.cons (.v 1) (.cons (.v 4) .nil))) .nil)
def b7B : CB := (.cons (.asg (.nm 3) (.bin false .add (.v 3) (.c (.int 1))))
   (.cons (.ite (.or (.cmp .gt (.v 3) (.g 3)) (.not (.call false 6 (.cons (.v 0) (.cons (.v 1) (.cons (.v 5) .nil))) []))) b7R .nil)
   .nil))
def b7L : CB := (.cons (.for_ (.tp (.cons (.nm 4) (.cons (.nm 5) .nil))) (.enumL (.ix (.v 2) (.c (.int 2)))) b7B) .nil)
def b7C : CE := .tup (.cons (.ix (.v 2) (.c (.int 0))) (.cons (.ix (.v 2) (.c (.int 1))) (.cons (.bi true .list (.cons (.ix (.v 2) (.c (.int 2))) .nil)) .nil)))
def b7S : CB := (.cons (.ite (.or (.not (.chain .le .le (.c (.int 1)) (.ix (.v 2) (.c (.int 0))) (.g 2))) (.not (.chain .le .le (.c (.int 1)) (.ix (.v 2) (.c (.int 1))) (.g 0)))) (.cons (.raise 4 ["function", "edge"] (.cons (.v 1) (.cons (.neg (.c (.int 1))) .nil)))
   .nil) .nil)
  .nil)
theorem b7_eq : b7 = (.cons (.ite (.not (.chain .le .le (.c (.int 1)) (.bi false .len (.cons (.v 0) .nil)) (.g 1))) (.cons (.raise 4 ["function", "edge"] (.cons (.neg (.c (.int 1))) (.cons (.neg (.c (.int 1))) .nil))) .nil) .nil)
 (.cons (.for_ (.tp (.cons (.nm 1) (.cons (.nm 2) .nil))) (.enumL (.v 0)) b7S)
 (.cons (.asg (.nm 3) (.c (.int 0)))
 (.cons (.for_ (.tp (.cons (.nm 1) (.cons (.nm 2) .nil))) (.enumL (.v 0)) b7L)
 (.cons (.ret (.comp true b7C (.nm 2) (.lst (.v 0)) (.c (.bool true)) [2])) .nil))))) := rfl
theorem en_at {us : List U} {i : Nat} {u w : U} (hw : us[i]? = some w) (hu : (us.zipIdx.map fun p => mkT [.d (.int (p.2 : Nat)),p.1])[i]? = some u) : u = mkT [.d (.int (i : Int)),w] := by
  rw [List.getElem?_map,List.getElem?_zipIdx,hw] at hu
  simp at hu
  exact hu.symm
theorem checked_gx (n : Nat) (O T : Cs) (u : U) (c : CX) (h : ChRep O T u c) : Gx (Y.run G (n + 3) O 7 [u] T) (fun v T' => Good c ∧ v = .ref (O.length + T.length) ∧ T' = T ++ Lay (O.length + T.length) c) (fun k fs _ => k = 4 ∧ ∃ f e,fs = exF f e ∧ First c f e) := by
  refine run_wx G7 rfl ?_
  have hcall : SzOk (cxSz c) → ∀ (i : Nat) (x : Int × Int × List XE),c[i]? = some x → ∀ e : XE,callP (cn G (n + 2)) O 6 [u,.d (.int (i : Int)),.d e.d] T = .ok (.d (.bool (edgB (cxSz c) i e))) T := by
    intro hs i x hx e
    have hlt := (List.getElem?_eq_some_iff.mp hx).1
    have h' := h.mono (ext_O O T)
    have hl' := h'.len
    have := isedge n (O ++ T) u (cxSz c) hs (i : Int) (by omega) (by rw [sz_len]; omega) e h'.v (by rw [sz_len]; exact hl')
    exact callP_r O T (by simpa using this)
  have hlb := h.len
  obtain ⟨us,hseq,hul,hit,hsw⟩ := h.seq
  have hsw := hsw T fun i c e => e
  have g0 : (cn G (n + 2)).glob 0 = some (.int 6) := rfl
  have g1 : (cn G (n + 2)).glob 1 = some (.int 6) := rfl
  have g2 : (cn G (n + 2)).glob 2 = some (.int 10) := rfl
  have g3 : (cn G (n + 2)).glob 3 = some (.int 24) := rfl
  generalize cn G (n + 2) = C at hcall g0 g1 g2 g3 ⊢
  show Wpx (denB C O b7 [some u,none,none,none,none,none] T) _ _ _ _ _
  rw [b7_eq]
  have hneg : ∀ (ρ : Rho),den C O ρ (.neg (.c (.int 1))) T = .ok (.d (.int (-1))) T := fun ρ => by simp
  refine xt_ite (!decide ((1 : Int) ≤ c.length ∧ (c.length : Int) ≤ 6)) (T' := T) (nt_ll (by simp) (by simp [hlb]) (by simp [g1])) ?_
  by_cases hl : 1 ≤ c.length ∧ c.length ≤ 6
  case neg =>
    have : ¬ ((1 : Int) ≤ c.length ∧ (c.length : Int) ≤ 6) := by omega
    rw [decide_eq_false this]
    refine xt_raise (ds := [.int (-1),.int (-1)]) (T' := T) (by simp) rfl ⟨rfl,-1,-1,rfl,.len hl⟩
  have : ((1 : Int) ≤ c.length ∧ (c.length : Int) ≤ 6) := by omega
  rw [decide_eq_true this]
  refine xt_nil ?_
  have hen : ∀ ρ : Rho,ρ[0]? = some (some u) → denI C O ρ (.enumL (.v 0)) T = .ok ⟨us.zipIdx.map fun p => mkT [.d (.int (p.2 : Nat)),p.1],watch u,T⟩ T := fun ρ h0 => by
    rw [denI_enumL,den_v,h0]
    simp [hseq]
  have hlz : (us.zipIdx.map fun p => mkT [.d (.int (p.2 : Nat)),p.1]).length = us.length := by simp
  have hat : ∀ (i : Nat) (uu : U),(us.zipIdx.map fun p => mkT [.d (.int (p.2 : Nat)),p.1])[i]? = some uu → ∃ x w,c[i]? = some x ∧ ItemR O T x w ∧ uu = mkT [.d (.int (i : Int)),w] := by
    intro i uu hu
    have hi : i < us.length := by
      have := (List.getElem?_eq_some_iff.mp hu).1
      simpa using this
    have hxx : c[i]? = some (c[i]'(by omega)) := List.getElem?_eq_getElem _
    obtain ⟨w,hw,hI⟩ := hit i _ hxx
    exact ⟨_,w,hxx,hI,en_at hw hu⟩
  refine xt_for ⟨us.zipIdx.map fun p => mkT [.d (.int (p.2 : Nat)),p.1],watch u,T⟩ T (fun i ρ T' => T' = T ∧ (∀ (j : Nat) y,j < i → c[j]? = some y → szB y) ∧ ∃ x1 x2 : Option U,ρ = [some u,x1,x2,none,none,none]) (hen _ rfl) ⟨rfl,fun j y hj => absurd hj (Nat.not_lt_zero _),none,none,rfl⟩ ?_ ?_ ?_
  · rintro i ρ T' ⟨rfl,_⟩
    exact hsw
  · rintro i uu hu ρ T' ⟨rfl,ha,x1,x2,rfl⟩
    obtain ⟨x,w,hx,hI,rfl⟩ := hat i uu hu
    obtain ⟨h0,h1,_,hsq⟩ := hI.at
    refine ⟨[some u,some (.d (.int (i : Int))),some w,none,none,none],by simp [hsq (i : Int)], ?_⟩
    unfold b7S
    refine xt_ite ((!decide ((1 : Int) ≤ x.1 ∧ x.1 ≤ 10)) || !decide ((1 : Int) ≤ x.2.1 ∧ x.2.1 ≤ 6)) (T' := T') (or_b (nt_ll (by simp) (by simp [h0]) (by simp [g2])) fun _ => nt_ll (by simp) (by simp [h1]) (by simp [g0])) ?_
    by_cases hb : szB x
    · have e : ((!decide ((1 : Int) ≤ x.1 ∧ x.1 ≤ 10)) || !decide ((1 : Int) ≤ x.2.1 ∧ x.2.1 ≤ 6)) = false := by
        obtain ⟨q1,q2,q3,q4⟩ := hb
        simp [q1,q2,q3,q4]
      rw [e]
      refine xt_nil (xt_nil ⟨rfl,fun j y hj hy => ?_,_,_,rfl⟩)
      rcases Nat.lt_or_ge j i with q | q
      · exact ha j y q hy
      · have : j = i := by omega
        subst this
        cases hx.symm.trans hy
        exact hb
    · have e : ((!decide ((1 : Int) ≤ x.1 ∧ x.1 ≤ 10)) || !decide ((1 : Int) ≤ x.2.1 ∧ x.2.1 ≤ 6)) = true := by
        by_cases q1 : (1 : Int) ≤ x.1 ∧ x.1 ≤ 10
        · by_cases q2 : (1 : Int) ≤ x.2.1 ∧ x.2.1 ≤ 6
          · exact absurd ⟨q1.1,q1.2,q2.1,q2.2⟩ hb
          · rw [decide_eq_false q2]
            simp
        · rw [decide_eq_false q1]
          rfl
      rw [e]
      exact xt_raise (ds := [.int i,.int (-1)]) (T' := T') (by simp) rfl ⟨rfl,i,-1,rfl,.sz i x hl hx hb ha⟩
  · rintro ρ T' ⟨rfl,ha,x1,x2,rfl⟩
    simp only [hlz] at ha
    have hs : SzOk (cxSz c) := (szOk_iff c).mpr ⟨hl,fun i x hx => ha i x (by have := (List.getElem?_eq_some_iff.mp hx).1; omega) hx⟩
    have hcall := hcall hs
    refine xt_asg (u := .d (.int 0)) (T' := T') (by simp) ?_
    refine xt_for ⟨us.zipIdx.map fun p => mkT [.d (.int (p.2 : Nat)),p.1],watch u,T'⟩ T' (fun i ρ T2 => T2 = T' ∧ Bef c i 0 ∧ pre c i ≤ 24 ∧ ∃ (x1 x2 x4 x5 : Option U) (v : Int),v = (pre c i : Nat) ∧ ρ = [some u,x1,x2,some (.d (.int v)),x4,x5]) (hen _ rfl) ⟨rfl,fun i' x' j' e' _ _ hlt => by omega,by simp [pre],x1,x2,none,none,0,by simp [pre],rfl⟩ ?_ ?_ ?_
    · rintro i ρ T2 ⟨rfl,_⟩
      exact hsw
    · rintro i uu hu ρ T2 ⟨rfl,hB,hp,x1,x2,x4,x5,v,hv,rfl⟩
      obtain ⟨x,w,hx,hI,rfl⟩ := hat i uu hu
      obtain ⟨h0,h1,⟨es,_,h2,h3,h4⟩,hsq⟩ := hI.at
      refine ⟨[some u,some (.d (.int (i : Int))),some w,some (.d (.int v)),x4,x5],by simp [hsq (i : Int)], ?_⟩
      have hse : sameW O T2 T2 (watch es) = true := by
        rcases h4 with rfl | ⟨j,rfl,hj⟩
        · rfl
        · exact sameW_refl hj hj (.inl ⟨_,rfl⟩)
      have hcl := hcall i x hx
      unfold b7L
      refine xt_for ⟨((esD x).map U.d).zipIdx.map fun p => mkT [.d (.int (p.2 : Nat)),p.1],watch es,T2⟩ T2 (fun j ρ T' => T' = T2 ∧ Bef c i j ∧ pre c i + j ≤ 24 ∧ ∃ (x4 x5 : Option U) (y : Int),y = v + j ∧ ρ = [some u,some (.d (.int (i : Int))),some w,some (.d (.int y)),x4,x5]) ?_ ⟨rfl,hB,hp,x4,x5,v,by simp,rfl⟩ ?_ ?_ ?_
      · rw [denI_enumL]
        simp [h2,h3]
      · rintro i ρ T' ⟨rfl,_⟩
        exact hse
      · rintro j uu hu ρ T3 ⟨rfl,hB,hp,x4,x5,y,hy,rfl⟩
        have hj : j < x.2.2.length := by
          have := (List.getElem?_eq_some_iff.mp hu).1
          simpa [esD] using this
        have hee : x.2.2[j]? = some x.2.2[j] := List.getElem?_eq_getElem hj
        generalize x.2.2[j] = e at hee
        have huu := en_at (w := .d e.d) (by rw [esD,List.getElem?_map,List.getElem?_map,hee] <;> rfl) hu
        subst huu
        refine ⟨[some u,some (.d (.int (i : Int))),some w,some (.d (.int y)),some (.d (.int (j : Int))),some (.d e.d)],rfl, ?_⟩
        unfold b7B
        refine xt_asg (u := .d (.int (y + 1))) (T' := T3) (by simp) ?_
        refine xt_ite (decide ((24 : Int) < y + 1) || !edgB (cxSz c) i e) (T' := T3) (or_b (by simp [g3]) fun _ => by simp [hcl e]) ?_
        by_cases hbd : 24 < pre c i + j + 1 ∨ edgB (cxSz c) i e = false
        · have e1 : (decide ((24 : Int) < y + 1) || !edgB (cxSz c) i e) = true := by
            rcases hbd with q | q
            · rw [decide_eq_true (by omega)]
              rfl
            · rw [q]
              simp
          rw [e1]
          exact xt_raise (ds := [.int i,.int j]) (T' := T3) (by simp) rfl ⟨rfl,i,j,rfl,.ed i x j e hs hx hee hB hp hbd⟩
        · have q1 : ¬ 24 < pre c i + j + 1 := fun q => hbd (.inl q)
          have q2 : edgB (cxSz c) i e = true := by
            cases q : edgB (cxSz c) i e with
            | true => rfl
            | false => exact absurd (.inr q) hbd
          have e1 : (decide ((24 : Int) < y + 1) || !edgB (cxSz c) i e) = false := by
            rw [q2,decide_eq_false (by omega)]
            rfl
          rw [e1]
          refine xt_nil (xt_nil ⟨rfl,fun i' x' j' e' hx' he' hlt => ?_,by omega,_,_,y + 1,by omega,rfl⟩)
          rcases Nat.lt_or_ge i' i with k | k
          · exact hB i' x' j' e' hx' he' (.inl k)
          · have : i' = i := by omega
            subst this
            cases hx.symm.trans hx'
            rcases Nat.lt_or_ge j' j with k' | k'
            · exact hB i' x j' e' hx he' (.inr ⟨rfl,k'⟩)
            · have : j' = j := by omega
              subst this
              cases hee.symm.trans he'
              exact q2
      · rintro ρ T3 ⟨rfl,hB,hp,x4,x5,y,hy,rfl⟩
        have hlj : (((esD x).map U.d).zipIdx.map fun p => mkT [.d (.int (p.2 : Nat)),p.1]).length = x.2.2.length := by simp [esD]
        simp only [hlj] at hB hp hy
        have hps := pre_S hx
        refine xt_nil ⟨rfl,fun i' x' j' e' hx' he' hlt => ?_,by omega,_,_,_,_,y,by omega,rfl⟩
        rcases Nat.lt_or_ge i' i with k | k
        · exact hB i' x' j' e' hx' he' (.inl k)
        · have : i' = i := by omega
          subst this
          cases hx.symm.trans hx'
          exact hB i' x j' e' hx he' (.inr ⟨rfl,(List.getElem?_eq_some_iff.mp he').1⟩)
    · rintro ρ T2 ⟨rfl,hB,hp,x1,x2,x4,x5,v,hv,rfl⟩
      simp only [hlz,hul] at hB hp
      have hm : pre c c.length = manyX c := by
        unfold pre manyX
        rw [List.take_length]
      have hG : Good c := ⟨hs,fun i x hx ed hm => by
        obtain ⟨j,hj⟩ := List.getElem?_of_mem hm
        exact hB i x j ed hx hj (.inl (List.getElem?_eq_some_iff.mp hx).1),by omega⟩
      have hcp := copy_live (C := C) (ρ := [some u,x1,x2,some (.d (.int v)),x4,x5]) (i := 0) (g := .nm 2) (own := [2]) (elt := b7C) h rfl hl.1 (by omega) (fun S w x hI => by
        obtain ⟨h0,h1,⟨es,_,h2,h3,h4⟩,hsq⟩ := hI.at
        refine ⟨[some u,x1,some w,some (.d (.int v)),x4,x5],rfl, ?_⟩
        have hl := listB_live h3
        unfold b7C
        simp [h0,h1,h2,hl]
        rfl)
      exact xt_ret hcp ⟨hG,rfl,rfl⟩
end Lk21
namespace Lk21
open PySem Y Y.S
theorem fld_fn (f e : Int) : (exF f e).lookup ("function" : Str) = some (.int f) := by
  unfold exF
  rw [List.lookup_cons,List.lookup_cons]
  have h1 : (("function" : Str) == ("edge" : Str)) = false := by decide
  rw [h1,beq_self_eq_true]
theorem fld_ed (f e : Int) : (exF f e).lookup ("edge" : Str) = some (.int e) := by
  unfold exF
  rw [List.lookup_cons,beq_self_eq_true]
theorem checked_no (n : Nat) (O : Cs) (u : U) (c : CX) (h : ChRep O [] u c) {f e : Int} (hF : First c f e) : ∃ T',Y.run G (n + 3) O 7 [u] [] = .exc 4 (exF f e) T' := by
  have hg := checked_gx n O [] u c h
  cases hr : Y.run G (n + 3) O 7 [u] [] with
  | ok v T' =>
    rw [hr] at hg
    exact (hF.bad hg.1).elim
  | exc k fs T' =>
    rw [hr] at hg
    obtain ⟨rfl,f',e',rfl,hF'⟩ := hg
    obtain ⟨rfl,rfl⟩ := hF.det hF'
    exact ⟨T',rfl⟩
  | fail =>
    rw [hr] at hg
    exact hg.elim
theorem checked_yes (n : Nat) (O T : Cs) (u : U) (c : CX) (h : ChRep O T u c) (hG : Good c) : Y.run G (n + 3) O 7 [u] T = .ok (.ref (O.length + T.length)) (T ++ Lay (O.length + T.length) c) := by
  have hg := checked_gx n O T u c h
  cases hr : Y.run G (n + 3) O 7 [u] T with
  | ok v T' =>
    rw [hr] at hg
    obtain ⟨_,rfl,rfl⟩ := hg
    rfl
  | exc k fs T' =>
    rw [hr] at hg
    obtain ⟨rfl,f',e',rfl,hF'⟩ := hg
    exact (hF'.bad hG).elim
  | fail =>
    rw [hr] at hg
    exact hg.elim
theorem isin7 (O T : Cs) : cmpU O .isin (.d (.bool true)) (.d (.list [.bool false,.bool false,.bool false,.bool false,.bool false,.bool false,.bool false])) T = some false := by rfl
theorem refusal_ok (n : Nat) (O T : Cs) (u : U) (c : CX) (h : ChRep O T u c) {f e : Int} (hF : First c f e) : callP (cn G (n + 4)) O 16 [u] T = .ok (.d (.tuple [.int f,.int e])) T := by
  have he : ∀ O,ChRep O [] u c → callP (cn G (n + 3)) O 7 [u] [] = .exc 4 (exF f e) [] := fun O h => by
    obtain ⟨T',e⟩ := checked_no n (O ++ []) u c (by rw [List.append_nil]; exact h) hF
    exact callP_x e
  have he := he (O ++ T) (h.mono (ext_O O T))
  suffices hg : Gv (Y.run G (n + 4) (O ++ T) 16 [u] []) fun v T' => v = .d (.tuple [.int f,.int e]) by
    obtain ⟨v,T',er,rfl⟩ := hg.ex
    exact callP_r O T er
  clear h
  generalize O ++ T = O at *
  refine run_wp G16 rfl ?_
  generalize cn G (n + 3) = C at *
  show Wp (denB C O b16 [some u,none,none,none] []) _ _ _ _
  unfold b16
  refine sA_asg (E_c _) (by sizeOf_list_dec) ?_
  have hA : denA C O [some u,some (.d .none),none,none] (.cons (.v 0) .nil) [] = .ok [u] [] := EA_cons (E_v rfl) EA_nil
  refine st_tryX (xcall_ex hA he) (by decide) ?_
  have hg : getC O ([] ++ [Cell.exn 4 (exF f e)]) (O.length + ([] : Cs).length) = some (.exn 4 (exF f e)) := by rw [List.length_nil,Nat.add_zero,getC_0]; rfl
  show Wp (denB C O _ [some u,some (.d .none),some (.ref (O.length + ([] : Cs).length)),none] _) _ _ _ _
  generalize [] ++ [Cell.exn 4 (exF f e)] = T1 at *
  generalize O.length + ([] : Cs).length = x at *
  have i1 : biU O false (.isexn [] [4]) [.ref x] T1 = .ok (.d (.bool false)) T1 := isexn_f hg (by decide) (by decide)
  have i2 : biU O false (.isexn [4] []) [.ref x] T1 = .ok (.d (.bool true)) T1 := isexn_t hg (by decide)
  refine sA_asg (u := .d (.list [.bool false,.bool false,.bool false,.bool false])) (T' := T1) (by array_get_dec) (by sizeOf_list_dec) ?_
  refine sA_asg (u := .d (.list [.bool false,.bool false,.bool false,.bool false,.bool false,.bool false,.bool false])) (T' := T1) (E_bin (E_v rfl) (E_lst (EA_cons (E_bi (EA_cons (E_v rfl) EA_nil) i1) (EA_cons (E_bi (EA_cons (E_v rfl) EA_nil) i1) (EA_cons (E_not (E_bi (EA_cons (E_v rfl) EA_nil) i2)) EA_nil))) (AD_cons (AD_cons (AD_cons AD_nil))) (by decide)) rfl) (by sizeOf_list_dec) ?_
  have hL : den C O [some u,some (.d .none),some (.ref x),some (.d (.list [.bool false,.bool false,.bool false,.bool false,.bool false,.bool false,.bool false]))] (.lst true (.cons (.bi false (.isexn [4] []) (.cons (.v 2) .nil)) (.cons (.cmp .isin (.c (.bool true)) (.v 3)) (.cons (.v 2) .nil)))) T1 = .ok (.ref (O.length + T1.length)) (T1 ++ [.lstU [.d (.bool true),.d (.bool false),.ref x]]) := by
    have hh : denA C O [some u,some (.d .none),some (.ref x),some (.d (.list [.bool false,.bool false,.bool false,.bool false,.bool false,.bool false,.bool false]))] (.cons (.bi false (.isexn [4] []) (.cons (.v 2) .nil)) (.cons (.cmp .isin (.c (.bool true)) (.v 3)) (.cons (.v 2) .nil))) T1 = .ok [.d (.bool true),.d (.bool false),.ref x] T1 :=
      EA_cons (E_bi (EA_cons (E_v rfl) EA_nil) i2) (EA_cons (E_cmp (E_c _) (E_v rfl) (isin7 O T1)) (EA_cons (E_v rfl) EA_nil))
    rw [den,hh]
    rfl
  refine sA_asg hL (by sizeOf_list_dec) (st_nil ?_)
  have hg2 : getC O (T1 ++ [.lstU [.d (.bool true),.d (.bool false),.ref x]]) x = some (.exn 4 (exF f e)) := getC_app hg
  have hr : getC O (T1 ++ [.lstU [.d (.bool true),.d (.bool false),.ref x]]) (O.length + T1.length) = some (.lstU [.d (.bool true),.d (.bool false),.ref x]) := by
    rw [getC_k]
    simp
  show Wp (denB C O _ [some u,some (.ref (O.length + T1.length)),none,some (.d (.list [.bool false,.bool false,.bool false,.bool false,.bool false,.bool false,.bool false]))] _) _ _ _ _
  generalize T1 ++ [.lstU [.d (.bool true),.d (.bool false),.ref x]] = T2 at *
  generalize O.length + T1.length = r at *
  have k0 : ixU O (.ref r) (.d (.int 0)) T2 = some (.d (.bool true)) := ixU_atU hr rfl
  have k1 : ixU O (.ref r) (.d (.int 1)) T2 = some (.d (.bool false)) := ixU_atU hr rfl
  have k2 : ixU O (.ref r) (.d (.int 2)) T2 = some (.ref x) := ixU_atU hr rfl
  have i5 : biU O false (.xfld [4] "function") [.ref x] T2 = .ok (.d (.int f)) T2 := xfld_ok hg2 (by decide) (fld_fn f e)
  have i6 : biU O false (.xfld [4] "edge") [.ref x] T2 = .ok (.d (.int e)) T2 := xfld_ok hg2 (by decide) (fld_ed f e)
  refine sA_iteF (v := false) (T' := T2) (E_or (p := false) (E_cmp (E_v rfl) (E_c _) rfl) fun _ => E_or (p := false) (q := false) (E_cmp (v := false) (E_ix (E_v rfl) (E_c _) k0) (E_c _) rfl) fun _ => E_ix (E_v rfl) (E_c _) k1) rfl (st_nil ?_)
  exact st_ret (E_tup (EA_cons (E_bi (EA_cons (E_ix (E_v rfl) (E_c _) k2) EA_nil) i5) (EA_cons (E_bi (EA_cons (E_ix (E_v rfl) (E_c _) k2) EA_nil) i6) EA_nil)) (by exact AD_cons (AD_cons AD_nil)) (by decide)) rfl
end Lk21
namespace Lk21
open PySem Y Y.S
theorem copied_ok (n : Nat) (O T : Cs) (u : U) (c : CX) (h : ChRep O T u c) (h1 : 1 ≤ c.length) (h6 : c.length ≤ 1000) : Y.run G (n + 1) O 17 [u] T = .ok (.ref (O.length + T.length)) (T ++ Lay (O.length + T.length) c) := by
  refine Gv.eq (run_wp G17 rfl ?_)
  generalize cn G n = C
  show Wp (denB C O b17 [some u,none,none,none] T) _ _ _ _
  unfold b17
  refine st_ret (copy_live (C := C) (ρ := [some u,none,none,none]) (i := 0) h rfl h1 h6 fun S w x hI => ?_) ⟨rfl,rfl⟩
  obtain ⟨h0,h1,⟨es,hs,h2,h3,h4⟩,hsq⟩ := hI.at
  refine ⟨[some u,some (.d (.int x.1)),some (.d (.int x.2.1)),some es],by simp [hs,wipeR], ?_⟩
  have hl := listB_live h3
  simp [hl]
  rfl
theorem tD_len (O T : Cs) (t : List Int) (l : Bool) : biU O l .len [.d (tD t)] T = .ok (.d (.int t.length)) T := by
  unfold tD
  simp
theorem tD_cut (O T : Cs) (t : List Int) (l h : Option Int) : slcU O false (.d (tD t)) l h T = .ok (.d (tD (cut t l h))) T := by
  unfold tD
  rw [slcU_T,cut_map]
theorem cut_le {α : Type} (t : List α) (l h : Option Int) : (cut t l h).length ≤ t.length := by
  unfold cut
  simp
  omega
theorem tD_cat (O T : Cs) (a b : List Int) (h : a.length + b.length ≤ 1000000) : binU O false .add (.d (tD a)) (.d (tD b)) T = .ok (.d (tD (a ++ b))) T := by
  unfold tD
  rw [V_catT (by simpa using h),List.map_append]
theorem tab_len {t : List Int} {m b : Int} (h : (t.length : Int) ≠ m) : tabB t m b = false := by
  unfold tabB
  rw [decide_eq_false h]
  rfl
theorem tab_mem {t : List Int} {m b w : Int} (h : w ∈ t) (hw : ¬ (0 ≤ w ∧ w < 2 ^ b.toNat)) : tabB t m b = false := by
  unfold tabB
  rw [Bool.and_eq_false_iff]
  right
  rw [List.all_eq_false]
  exact ⟨w,h,by simpa using hw⟩
theorem pow9 (O T : Cs) (l : Bool) : binU O l .pow (.d (.int 10)) (.d (.int 9)) T = .ok (.d (.int 1000000000)) T := by rfl
theorem pow18 (O T : Cs) (l : Bool) : binU O l .pow (.d (.int 10)) (.d (.int 18)) T = .ok (.d (.int 1000000000000000000)) T := by rfl
theorem mask_ok (n : Nat) (O T : Cs) (t : List Int) (cell facts : Int) (h1 : 1 ≤ t.length) (h6 : t.length ≤ 6) (f0 : 0 ≤ facts) (f6 : facts ≤ 6) : ∃ t',(∀ many : Int,many = t.length → tabB t' many facts = false) ∧ callP (cn G (n + 2)) O 13 [.d (tD t),.d (.int cell),.d (.int facts)] T = .ok (.d (tD t')) T := by
  suffices hg : Gv (Y.run G (n + 2) (O ++ T) 13 [.d (tD t),.d (.int cell),.d (.int facts)] []) fun v T' => ∃ t',(∀ many : Int,many = t.length → tabB t' many facts = false) ∧ v = .d (tD t') by
    obtain ⟨v,T',er,t',ht,rfl⟩ := hg.ex
    exact ⟨t',ht,callP_r O T er⟩
  generalize O ++ T = O
  refine run_wp G13 rfl ?_
  have hp : PickOk (cn G (n + 1)) 9 := pick_run (G := G) rfl n
  generalize cn G (n + 1) = C at *
  show Wp (denB C O b13 [some (.d (tD t)),some (.d (.int cell)),some (.d (.int facts)),none,none] []) _ _ _ _
  unfold b13
  obtain ⟨a,a0,a1,ea⟩ := hp O [] cell 20 t.length (by omega)
  obtain ⟨r,r0,r1,er⟩ := hp O [] cell 21 3 (by decide)
  obtain ⟨k,k0,k1,ek⟩ := hp O [] cell 22 3 (by decide)
  have hlen := tD_len O [] t false
  have hf : 0 ≤ facts ∧ facts ≤ 1000 := by omega
  have hp9 := pow9 O [] false
  refine sA_asg (u := .d (.int a)) (T' := []) (by array_get_dec) (by sizeOf_list_dec) ?_
  obtain ⟨w,hw,hwb⟩ : ∃ w : Int,L2.atI [.int (2 ^ facts.toNat),.int (-1),.int (2 ^ facts.toNat + cell % 1000000000)] r = some (PyData.int w) ∧ ¬ (0 ≤ w ∧ w < 2 ^ facts.toNat) := by
    obtain rfl | rfl | rfl : r = 0 ∨ r = 1 ∨ r = 2 := by omega
    · exact ⟨_,rfl,by omega⟩
    · exact ⟨_,rfl,by omega⟩
    · exact ⟨_,rfl,by omega⟩
  have hix : ixU O (.d (.list [.int (2 ^ facts.toNat),.int (-1),.int (2 ^ facts.toNat + cell % 1000000000)])) (.d (.int r)) [] = some (.d (.int w)) := by
    rw [ixU_L,hw]
    rfl
  refine sA_asg (u := .d (.int w)) (T' := []) (E_ix (x := .d (.list [.int (2 ^ facts.toNat),.int (-1),.int (2 ^ facts.toNat + cell % 1000000000)])) (by array_get_dec) (by array_get_dec) hix) (by sizeOf_list_dec) ?_
  have c1 := cut_le t none (some a)
  have c2 := cut_le t (some (a + 1)) none
  have s1 := tD_cut O [] t none (some a)
  have s2 := tD_cut O [] t (some (a + 1)) none
  have s3 := tD_cut O [] t none (some (-1))
  have b1 := tD_cat O [] (cut t none (some a)) [w] (by simp; omega)
  have b2 := tD_cat O [] (cut t none (some a) ++ [w]) (cut t (some (a + 1)) none) (by simp; omega)
  have b3 := tD_cat O [] t [0] (by simp; omega)
  have l3 : (cut t none (some (-1))).length = t.length - 1 := by
    unfold cut
    simp [HT.sIx]
    omega
  have hT : ∀ ρ : Rho,den C O (some (.d (tD t)) :: some (.d (.int cell)) :: some (.d (.int facts)) :: some (.d (.int a)) :: some (.d (.int w)) :: ρ) (.lst false (.cons (.bin false .add (.bin false .add (.slc false (.v 0) .skip (.v 3)) (.tup (.cons (.v 4) .nil))) (.slc false (.v 0) (.bin false .add (.v 3) (.c (.int 1))) .skip)) (.cons (.bin false .add (.v 0) (.tup (.cons (.c (.int 0)) .nil))) (.cons (.slc false (.v 0) .skip (.neg (.c (.int 1)))) .nil)))) [] = .ok (.d (.list [tD (cut t none (some a) ++ [w] ++ cut t (some (a + 1)) none),tD (t ++ [0]),tD (cut t none (some (-1)))])) [] := by
    intro ρ
    refine E_lst (us := [.d (tD (cut t none (some a) ++ [w] ++ cut t (some (a + 1)) none)),.d (tD (t ++ [0])),.d (tD (cut t none (some (-1))))]) (EA_cons (E_bin (E_bin (E_slcH rfl (E_v rfl) (E_v rfl) s1) (E_tup (EA_cons (E_v rfl) EA_nil) (by exact AD_cons AD_nil) (by decide)) b1) (E_slcL rfl (E_v rfl) (E_bin (E_v rfl) (E_c _) rfl) s2) b2) (EA_cons (E_bin (E_v rfl) (E_tup (EA_cons (E_c _) EA_nil) (by exact AD_cons AD_nil) (by decide)) b3) (EA_cons (E_slcH rfl (E_v rfl) (E_neg (E_c _)) s3) EA_nil))) (by exact AD_cons (AD_cons (AD_cons AD_nil))) (by decide)
  obtain ⟨t',ht,hv⟩ : ∃ t',L2.atI [tD (cut t none (some a) ++ [w] ++ cut t (some (a + 1)) none),tD (t ++ [0]),tD (cut t none (some (-1)))] k = some (tD t') ∧ ∀ many : Int,many = t.length → tabB t' many facts = false := by
    obtain rfl | rfl | rfl : k = 0 ∨ k = 1 ∨ k = 2 := by omega
    · exact ⟨_,rfl,fun many hm => tab_mem (w := w) (by simp) hwb⟩
    · exact ⟨_,rfl,fun many hm => tab_len (by simp; omega)⟩
    · exact ⟨_,rfl,fun many hm => tab_len (by rw [l3]; omega)⟩
  have hix2 : ixU O (.d (.list [tD (cut t none (some a) ++ [w] ++ cut t (some (a + 1)) none),tD (t ++ [0]),tD (cut t none (some (-1)))])) (.d (.int k)) [] = some (.d (tD t')) := by
    rw [ixU_L,ht]
    rfl
  exact st_ret (E_ix (hT []) (by array_get_dec) hix2) ⟨t',hv,rfl⟩
end Lk21
namespace Lk21
open PySem Y Y.S
theorem tab_l {t : List Int} {m b : Int} (h : tabB t m b = true) : (t.length : Int) = m := by
  unfold tabB at h
  rw [Bool.and_eq_true] at h
  exact of_decide_eq_true h.1
theorem hd_no {P p q c : Int} (h : ¬ (0 ≤ p ∧ p < P ∧ 0 ≤ q ∧ q < P ∧ 1 ≤ c ∧ c ≤ 1000000000000000000)) : headB P p q c = false := decide_eq_false h
theorem st_no {s : Sz} {f : Nat} {P n p q c : Int} {t : List Int} (hf : s[f]? = some (P,n)) (h : headB P p q c = false ∨ tabB t n n = false) : edgB s f (.st p q c t) = false := by
  simp only [edgB,hf]
  rcases h with h | h <;> rw [h] <;> simp
theorem ca_no {s : Sz} {f : Nat} {P n p q c g : Int} {a b t : List Int} (hf : s[f]? = some (P,n)) (h : headB P p q c = false ∨ ¬ (0 ≤ g ∧ g < s.length) ∨ ∃ Q m,s[g.toNat]? = some (Q,m) ∧ (tabB a n m = false ∨ tabB b m n = false ∨ tabB t n n = false)) : edgB s f (.ca p q c g a b t) = false := by
  simp only [edgB,hf]
  rcases h with h | h | ⟨Q,m,hg,h⟩
  · rw [h]; simp
  · rw [decide_eq_false h]; simp
  · rw [hg]
    simp only
    rcases h with h | h | h <;> rw [h] <;> simp
theorem ca_yes {s : Sz} {f : Nat} {P n p q c g : Int} {a b t : List Int} (hf : s[f]? = some (P,n)) (h : edgB s f (.ca p q c g a b t) = true) : 0 ≤ g ∧ g < s.length ∧ ∃ Q m,s[g.toNat]? = some (Q,m) ∧ (a.length : Int) = n ∧ (b.length : Int) = m ∧ (t.length : Int) = n := by
  simp only [edgB,hf,Bool.and_eq_true,decide_eq_true_eq] at h
  obtain ⟨_,hg,h⟩ := h
  cases e : s[g.toNat]? with
  | none => rw [e] at h; cases h
  | some z =>
    rw [e] at h
    simp only [Bool.and_eq_true] at h
    exact ⟨hg.1,hg.2,z.1,z.2,rfl,tab_l h.1.1,tab_l h.1.2,tab_l h.2⟩
theorem st_yes {s : Sz} {f : Nat} {P n p q c : Int} {t : List Int} (hf : s[f]? = some (P,n)) (h : edgB s f (.st p q c t) = true) : (t.length : Int) = n := by
  simp only [edgB,hf,Bool.and_eq_true] at h
  exact tab_l h.2
theorem pick2 (O T : Cs) (a b r : Int) (h0 : 0 ≤ r) (h1 : r < 2) : ∃ w,ixU O (.d (.list [.int a,.int b])) (.d (.int r)) T = some (.d (.int w)) ∧ (w = a ∨ w = b) := by
  obtain rfl | rfl : r = 0 ∨ r = 1 := by omega
  · exact ⟨a,rfl,.inl rfl⟩
  · exact ⟨b,rfl,.inr rfl⟩
theorem pick3 (O T : Cs) (a b c r : Int) (h0 : 0 ≤ r) (h1 : r < 3) : ∃ w,ixU O (.d (.list [.int a,.int b,.int c])) (.d (.int r)) T = some (.d (.int w)) ∧ (w = a ∨ w = b ∨ w = c) := by
  obtain rfl | rfl | rfl : r = 0 ∨ r = 1 ∨ r = 2 := by omega
  · exact ⟨a,rfl,.inl rfl⟩
  · exact ⟨b,rfl,.inr (.inl rfl)⟩
  · exact ⟨c,rfl,.inr (.inr rfl)⟩
theorem tabl6 {s : Sz} (hs : SzOk s) {f : Nat} {P m : Int} (hf : s[f]? = some (P,m)) {t : List Int} (h : (t.length : Int) = m) : 1 ≤ t.length ∧ t.length ≤ 6 := by
  have := sz_b hs hf
  omega
theorem spoilt_ok (n : Nat) (O T : Cs) (u : U) (s : Sz) (hs : SzOk s) (f : Int) (f0 : 0 ≤ f) (f1 : f < s.length) (e : XE) (cell : Int) (hv : ChV (O ++ T) [] u s) (hl : lenB (O ++ T) [] u = .ok (.d (.int s.length)) []) (he : edgB s f.toNat e = true) :
    ∃ e',edgB s f.toNat e' = false ∧ callP (cn G (n + 3)) O 14 [u,.d (.int f),.d e.d,.d (.int cell)] T = .ok (.d e'.d) T := by
  suffices hg : Gv (Y.run G (n + 3) (O ++ T) 14 [u,.d (.int f),.d e.d,.d (.int cell)] []) fun v T' => ∃ e',edgB s f.toNat e' = false ∧ v = .d e'.d by
    obtain ⟨v,T',er,e',h1,rfl⟩ := hg.ex
    exact ⟨e',h1,callP_r O T er⟩
  generalize O ++ T = O at *
  refine run_wp G14 rfl ?_
  have hp : PickOk (cn G (n + 2)) 9 := pick_run (G := G) rfl (n + 1)
  have hm := mask_ok n O []
  generalize cn G (n + 2) = C at *
  obtain ⟨x,w,P,m,hf,hx,hx0,hx1,hsq⟩ := hv f f0 f1
  have hb := sz_b hs hf
  show Wp (denB C O b14 [some u,some (.d (.int f)),some (.d e.d),some (.d (.int cell)),none,none,none,none] []) _ _ _ _
  unfold b14
  obtain ⟨kd,kd0,kd1,ekd⟩ := hp O [] cell 23 5 (by decide)
  obtain ⟨z,z0,z1,ez⟩ := hp O [] cell 31 2 (by decide)
  obtain ⟨r2,r20,r21,er2⟩ := hp O [] cell 24 2 (by decide)
  obtain ⟨r3,r30,r31,er3⟩ := hp O [] cell 24 3 (by decide)
  obtain ⟨r5,r50,r51,er5⟩ := hp O [] cell 25 3 (by decide)
  have hp18 := pow18 O [] false
  refine sA_asg (u := .d (.int kd)) (T' := []) (by array_get_dec) (by sizeOf_list_dec) ?_
  obtain ⟨far,hfar,far0⟩ : ∃ far : Int,far = cell / 7 % 1000000000000000000 * z ∧ 0 ≤ far := ⟨_,rfl,Int.mul_nonneg (Int.emod_nonneg _ (by decide)) z0⟩
  have hmo : mulOk (cell / 7 % 1000000000000000000) z = true := mul_okL (by omega)
  refine sA_asg (u := .d (.int far)) (T' := []) (by rw [hfar]; exact E_bin (E_bin (E_bin (E_v rfl) (E_c _) (V_fdiv (by decide) (by decide))) (E_bin (E_c _) (E_c _) hp18) (V_mod (by decide))) (by array_get_dec) (V_mul hmo)) (by sizeOf_list_dec) ?_
  clear hfar hmo
  obtain ⟨w2,hw2,hw2v⟩ := pick2 O [] (P + far) (-1) r2 r20 r21
  obtain ⟨w3,hw3,hw3v⟩ := pick3 O [] 0 (1000000000000000000 + 1 + far) (-1) r3 r30 r31
  obtain ⟨w4,hw4,hw4v⟩ := pick2 O [] (s.length + far) (-1) r2 r20 r21
  obtain ⟨d,hd⟩ : ∃ d : D,d = e.d := ⟨_,rfl⟩
  have e2 : ∀ ρ : Rho,den C O (some u :: some (.d (.int f)) :: some (.d d) :: some (.d (.int cell)) :: some (.d (.int kd)) :: some (.d (.int far)) :: ρ) (.tup (.cons (.ix (.lst false (.cons (.bin false .add (.ix (.ix (.v 0) (.v 1)) (.c (.int 0))) (.v 5)) (.cons (.neg (.c (.int 1))) .nil))) (.call false 9 (.cons (.v 3) (.cons (.c (.int 24)) (.cons (.c (.int 2)) .nil))) [])) .nil)) [] = .ok (.d (.tuple [.int w2])) [] := fun ρ =>
    E_tup (EA_cons (E_ix (E_lst (EA_cons (E_bin (E_ix (E_ix (E_v rfl) (E_v rfl) hx) (E_c _) hx0) (E_v rfl) rfl) (EA_cons (E_neg (E_c _)) EA_nil)) (by exact AD_cons (AD_cons AD_nil)) (by decide)) (by array_get_dec) hw2) EA_nil) (by exact AD_cons AD_nil) (by decide)
  have e3 : ∀ ρ : Rho,den C O (some u :: some (.d (.int f)) :: some (.d d) :: some (.d (.int cell)) :: some (.d (.int kd)) :: some (.d (.int far)) :: ρ) (.tup (.cons (.ix (.lst false (.cons (.c (.int 0)) (.cons (.bin false .add (.bin false .add (.bin false .pow (.c (.int 10)) (.c (.int 18))) (.c (.int 1))) (.v 5)) (.cons (.neg (.c (.int 1))) .nil)))) (.call false 9 (.cons (.v 3) (.cons (.c (.int 24)) (.cons (.c (.int 3)) .nil))) [])) .nil)) [] = .ok (.d (.tuple [.int w3])) [] := fun ρ =>
    E_tup (EA_cons (E_ix (E_lst (EA_cons (E_c _) (EA_cons (E_bin (E_bin (E_bin (E_c _) (E_c _) hp18) (E_c _) rfl) (E_v rfl) rfl) (EA_cons (E_neg (E_c _)) EA_nil))) (by exact AD_cons (AD_cons (AD_cons AD_nil))) (by decide)) (by array_get_dec) hw3) EA_nil) (by exact AD_cons AD_nil) (by decide)
  have e4 : ∀ ρ : Rho,den C O (some u :: some (.d (.int f)) :: some (.d d) :: some (.d (.int cell)) :: some (.d (.int kd)) :: some (.d (.int far)) :: ρ) (.tup (.cons (.ix (.lst false (.cons (.bin false .add (.bi false .len (.cons (.v 0) .nil)) (.v 5)) (.cons (.neg (.c (.int 1))) .nil))) (.call false 9 (.cons (.v 3) (.cons (.c (.int 24)) (.cons (.c (.int 2)) .nil))) [])) .nil)) [] = .ok (.d (.tuple [.int w4])) [] := fun ρ =>
    E_tup (EA_cons (E_ix (E_lst (EA_cons (E_bin (E_bi (EA_cons (E_v rfl) EA_nil) hl) (E_v rfl) rfl) (EA_cons (E_neg (E_c _)) EA_nil)) (by exact AD_cons (AD_cons AD_nil)) (by decide)) (by array_get_dec) hw4) EA_nil) (by exact AD_cons AD_nil) (by decide)
  rw [hd] at e2 e3 e4
  clear hd d
  cases e with
  | st p q c t =>
    have htl := st_yes hf he
    obtain ⟨t',ht',emk⟩ := hm t cell m (tabl6 hs hf htl).1 (tabl6 hs hf htl).2 (by omega) (by omega)
    have ht' := ht' m htl.symm
    simp only [XE.d] at *
    refine sA_ite (v := decide (kd = 0)) (T' := []) (by array_get_dec) (fun _ => ?_) fun _ => st_nil ?_
    · refine st_ret (E_bin (E_bin (E_slcH rfl (E_v rfl) (E_c _) rfl) (e2 [none,none]) rfl) (E_slcL rfl (E_v rfl) (E_c _) rfl) rfl) ⟨.st w2 q c t,st_no hf (.inl (hd_no (by omega))),rfl⟩
    refine sA_ite (v := decide (kd = 1)) (T' := []) (by array_get_dec) (fun _ => ?_) fun _ => st_nil ?_
    · refine st_ret (E_bin (E_bin (E_slcH rfl (E_v rfl) (E_c _) rfl) (e2 [none,none]) rfl) (E_slcL rfl (E_v rfl) (E_c _) rfl) rfl) ⟨.st p w2 c t,st_no hf (.inl (hd_no (by omega))),rfl⟩
    refine sA_ite (v := decide (kd = 2)) (T' := []) (by array_get_dec) (fun _ => ?_) fun _ => st_nil ?_
    · refine st_ret (E_bin (E_bin (E_slcH rfl (E_v rfl) (E_c _) rfl) (e3 [none,none]) rfl) (E_slcL rfl (E_v rfl) (E_c _) rfl) rfl) ⟨.st p q w3 t,st_no hf (.inl (hd_no (by omega))),rfl⟩
    refine sA_iteT (v := true) (T' := []) (E_cmp (E_ix (E_v rfl) (E_c _) rfl) (E_c _) step_same) rfl ?_
    exact st_ret (E_bin (E_slcH rfl (E_v rfl) (E_c _) rfl) (E_tup (EA_cons (E_callD (EA_cons (E_ix (E_v rfl) (E_c _) rfl) (EA_cons (E_v rfl) (EA_cons (E_ix (E_ix (E_v rfl) (E_v rfl) hx) (E_c _) hx1) EA_nil))) rfl emk) EA_nil) (by exact AD_cons AD_nil) (by decide)) rfl) ⟨.st p q c t',st_no hf (.inr ht'),rfl⟩
  | ca p q c g a b t =>
    obtain ⟨g0,g1,Q,k,hg,la,lb,lt⟩ := ca_yes hf he
    obtain ⟨x',w',Q',k',hg',hy,hy0,hy1,_⟩ := hv g g0 g1
    cases hg.symm.trans hg'
    have hbg := sz_b hs hg
    obtain ⟨a',ha',ema⟩ := hm a cell k (tabl6 hs hf la).1 (tabl6 hs hf la).2 (by omega) (by omega)
    obtain ⟨b',hb',emb⟩ := hm b cell m (tabl6 hs hg lb).1 (tabl6 hs hg lb).2 (by omega) (by omega)
    obtain ⟨t',ht',emt⟩ := hm t cell m (tabl6 hs hf lt).1 (tabl6 hs hf lt).2 (by omega) (by omega)
    have ha' := ha' m la.symm
    have hb' := hb' k lb.symm
    have ht' := ht' m lt.symm
    simp only [XE.d] at *
    refine sA_ite (v := decide (kd = 0)) (T' := []) (by array_get_dec) (fun _ => ?_) fun _ => st_nil ?_
    · refine st_ret (E_bin (E_bin (E_slcH rfl (E_v rfl) (E_c _) rfl) (e2 [none,none]) rfl) (E_slcL rfl (E_v rfl) (E_c _) rfl) rfl) ⟨.ca w2 q c g a b t,ca_no hf (.inl (hd_no (by omega))),rfl⟩
    refine sA_ite (v := decide (kd = 1)) (T' := []) (by array_get_dec) (fun _ => ?_) fun _ => st_nil ?_
    · refine st_ret (E_bin (E_bin (E_slcH rfl (E_v rfl) (E_c _) rfl) (e2 [none,none]) rfl) (E_slcL rfl (E_v rfl) (E_c _) rfl) rfl) ⟨.ca p w2 c g a b t,ca_no hf (.inl (hd_no (by omega))),rfl⟩
    refine sA_ite (v := decide (kd = 2)) (T' := []) (by array_get_dec) (fun _ => ?_) fun _ => st_nil ?_
    · refine st_ret (E_bin (E_bin (E_slcH rfl (E_v rfl) (E_c _) rfl) (e3 [none,none]) rfl) (E_slcL rfl (E_v rfl) (E_c _) rfl) rfl) ⟨.ca p q w3 g a b t,ca_no hf (.inl (hd_no (by omega))),rfl⟩
    refine sA_iteF (v := false) (T' := []) (E_cmp (E_ix (E_v rfl) (E_c _) rfl) (E_c _) call_step) rfl (st_nil ?_)
    refine sA_ite (v := decide (kd = 3)) (T' := []) (by array_get_dec) (fun _ => ?_) fun _ => st_nil ?_
    · refine st_ret (E_bin (E_bin (E_slcH rfl (E_v rfl) (E_c _) rfl) (e4 [none,none]) rfl) (E_slcL rfl (E_v rfl) (E_c _) rfl) rfl) ⟨.ca p q c w4 a b t,ca_no hf (.inr (.inl (by omega))),rfl⟩
    refine sA_asg (u := .d (.int (5 + r5))) (T' := []) (E_bin (E_c _) (by array_get_dec) rfl) (by sizeOf_list_dec) ?_
    have hr : (5 + r5) - 5 = r5 := by omega
    obtain rfl | rfl | rfl : r5 = 0 ∨ r5 = 1 ∨ r5 = 2 := by omega
    · refine sA_asg (u := .d (.int k)) (T' := []) (E_ix (E_ix (E_v rfl) (E_ix (E_lst (EA_cons (E_ix (E_v rfl) (E_c _) rfl) (EA_cons (E_v rfl) (EA_cons (E_v rfl) EA_nil))) (by exact AD_cons (AD_cons (AD_cons AD_nil))) (by decide)) (E_bin (E_v rfl) (E_c _) rfl) rfl) hy) (E_c _) hy1) (by sizeOf_list_dec) ?_
      exact st_ret (E_bin (E_bin (E_slcH rfl (E_v rfl) (E_v rfl) rfl) (E_tup (EA_cons (E_callD (EA_cons (E_ix (E_v rfl) (E_v rfl) rfl) (EA_cons (E_v rfl) (EA_cons (E_v rfl) EA_nil))) rfl ema) EA_nil) (by exact AD_cons AD_nil) (by decide)) rfl) (E_slcL rfl (E_v rfl) (E_bin (E_v rfl) (E_c _) rfl) rfl) rfl) ⟨.ca p q c g a' b t,ca_no hf (.inr (.inr ⟨Q,k,hg,.inl ha'⟩)),rfl⟩
    · refine sA_asg (u := .d (.int m)) (T' := []) (E_ix (E_ix (E_v rfl) (E_ix (E_lst (EA_cons (E_ix (E_v rfl) (E_c _) rfl) (EA_cons (E_v rfl) (EA_cons (E_v rfl) EA_nil))) (by exact AD_cons (AD_cons (AD_cons AD_nil))) (by decide)) (E_bin (E_v rfl) (E_c _) rfl) rfl) hx) (E_c _) hx1) (by sizeOf_list_dec) ?_
      exact st_ret (E_bin (E_bin (E_slcH rfl (E_v rfl) (E_v rfl) rfl) (E_tup (EA_cons (E_callD (EA_cons (E_ix (E_v rfl) (E_v rfl) rfl) (EA_cons (E_v rfl) (EA_cons (E_v rfl) EA_nil))) rfl emb) EA_nil) (by exact AD_cons AD_nil) (by decide)) rfl) (E_slcL rfl (E_v rfl) (E_bin (E_v rfl) (E_c _) rfl) rfl) rfl) ⟨.ca p q c g a b' t,ca_no hf (.inr (.inr ⟨Q,k,hg,.inr (.inl hb')⟩)),rfl⟩
    · refine sA_asg (u := .d (.int m)) (T' := []) (E_ix (E_ix (E_v rfl) (E_ix (E_lst (EA_cons (E_ix (E_v rfl) (E_c _) rfl) (EA_cons (E_v rfl) (EA_cons (E_v rfl) EA_nil))) (by exact AD_cons (AD_cons (AD_cons AD_nil))) (by decide)) (E_bin (E_v rfl) (E_c _) rfl) rfl) hx) (E_c _) hx1) (by sizeOf_list_dec) ?_
      exact st_ret (E_bin (E_bin (E_slcH rfl (E_v rfl) (E_v rfl) rfl) (E_tup (EA_cons (E_callD (EA_cons (E_ix (E_v rfl) (E_v rfl) rfl) (EA_cons (E_v rfl) (EA_cons (E_v rfl) EA_nil))) rfl emt) EA_nil) (by exact AD_cons AD_nil) (by decide)) rfl) (E_slcL rfl (E_v rfl) (E_bin (E_v rfl) (E_c _) rfl) rfl) rfl) ⟨.ca p q c g a b t',ca_no hf (.inr (.inr ⟨Q,k,hg,.inr (.inr ht')⟩)),rfl⟩
end Lk21
namespace Lk21
open PySem Y Y.S
theorem lay_xe (e : XE) : lay 2 e.d := by
  have hI : ∀ i : Int,lay 1 (.int i) := fun i => (lay_int i).mono (by decide)
  have hT : ∀ t : List Int,lay 1 (tD t) := fun t => lay_tuple fun x hx => by
    obtain ⟨r,_,rfl⟩ := List.mem_map.mp hx
    exact lay_int _
  cases e with
  | st p q c t =>
    refine lay_tuple fun x hx => ?_
    simp only [List.mem_cons,List.not_mem_nil,or_false] at hx
    rcases hx with rfl | rfl | rfl | rfl | rfl
    · exact lay_step.mono (by decide)
    · exact hI _
    · exact hI _
    · exact hI _
    · exact hT _
  | ca p q c g a b t =>
    refine lay_tuple fun x hx => ?_
    simp only [List.mem_cons,List.not_mem_nil,or_false] at hx
    rcases hx with rfl | rfl | rfl | rfl | rfl | rfl | rfl | rfl
    · exact lay_call.mono (by decide)
    · exact hI _
    · exact hI _
    · exact hI _
    · exact hI _
    · exact hT _
    · exact hT _
    · exact hT _
theorem lay_es (x : Int × Int × List XE) : lay 3 (.list (esD x)) := lay_list fun y hy => by
  obtain ⟨e,_,rfl⟩ := List.mem_map.mp hy
  exact lay_xe e
theorem lay_cx (c : CX) : lay 5 (.list (cxD c)) := lay_list fun y hy => by
  obtain ⟨x,_,rfl⟩ := List.mem_map.mp hy
  refine lay_tuple fun z hz => ?_
  simp only [List.mem_cons,List.not_mem_nil,or_false] at hz
  rcases hz with rfl | rfl | rfl
  · exact (lay_int _).mono (by decide)
  · exact (lay_int _).mono (by decide)
  · exact lay_es x
theorem eq_nil (O T : Cs) (j : Nat) (x : Int × Int × List XE) (h : getC O T j = some (.lst (esD x))) : cmpU O .eq (.ref j) (.d (.list [])) T = some x.2.2.isEmpty := by
  have ht : toD O T 3 (.ref j) = some (.list (esD x)) := by rw [toD_refS,h]
  unfold cmpU
  simp only [ht,toD_d]
  rw [(lay_es x).shp (by decide),(show shp (.list []) = true from rfl)]
  show some (PyData.eqv (.list (esD x)) (.list [])) = _
  unfold esD
  cases x.2.2 <;> rfl
theorem eqv_pair (p q : Int × Int) : PyData.eqv (pairD p) (pairD q) = decide (p = q) := by
  unfold pairD
  simp only [PyData.eqv,PyData.eqvAll]
  by_cases h1 : p.1 = q.1
  · by_cases h2 : p.2 = q.2
    · have : p = q := Prod.ext h1 h2
      simp [h1,h2,this]
    · have : p ≠ q := fun e => h2 (by rw [e])
      simp [h2,this]
  · have : p ≠ q := fun e => h1 (by rw [e])
    simp [h1,this]
theorem nin_sp (O T : Cs) (r : Nat) (c : CX) (ps : List (Int × Int)) (p : Int × Int) (h : getC O T r = some (.lst (.list (cxD c) :: ps.map pairD))) : cmpU O .notin (.d (pairD p)) (.ref r) T = some (!decide (p ∈ ps)) := by
  have hd : dictOf O T (.ref r) = none := by
    unfold dictOf
    simp only [h]
  have ht : toD O T 3 (.ref r) = some (.list (.list (cxD c) :: ps.map pairD)) := by rw [toD_refS,h]
  have hl : lay 6 (.list (.list (cxD c) :: ps.map pairD)) := lay_list fun y hy => by
    rcases List.mem_cons.mp hy with rfl | hy
    · exact lay_cx c
    · obtain ⟨q,_,rfl⟩ := List.mem_map.mp hy
      refine lay_tuple fun z hz => ?_
      simp only [List.mem_cons,List.not_mem_nil,or_false] at hz
      rcases hz with rfl | rfl
      · exact (lay_int _).mono (by decide)
      · exact (lay_int _).mono (by decide)
  have hs : shp (pairD p) = true := rfl
  have e : cmpU.isinU O (.d (pairD p)) (.ref r) T = some (decide (p ∈ ps)) := by
    unfold cmpU.isinU
    simp only [hd]
    show (match toD O T 3 (.d (pairD p)),toD O T 3 (.ref r) with
      | some a,some (.list ds) => if shp a && shp (.list ds) then some (ds.any fun z => PyData.eqv z a) else none
      | _,_ => none) = _
    rw [ht,toD_d]
    simp only
    rw [hs,hl.shp (by decide)]
    show some (List.any _ _) = _
    congr 1
    rw [List.any_cons]
    have e0 : PyData.eqv (.list (cxD c)) (pairD p) = false := rfl
    rw [e0,Bool.false_or,List.any_map]
    rw [Bool.eq_iff_iff,List.any_eq_true,decide_eq_true_eq]
    constructor
    · rintro ⟨q,hq,h⟩
      have h : PyData.eqv (pairD q) (pairD p) = true := h
      rw [eqv_pair,decide_eq_true_eq] at h
      rw [← h]
      exact hq
    · intro hq
      refine ⟨p,hq, ?_⟩
      show PyData.eqv (pairD p) (pairD p) = true
      rw [eqv_pair,decide_eq_true_eq]
  show (cmpU.isinU O (.d (pairD p)) (.ref r) T).map (!·) = _
  rw [e]
  rfl
def Wc (A : Cs) (sp : List D) (c : CX) : Cs := A ++ .lst sp :: Lay (A.length + 1) c
section
variable (A : Cs) (sp : List D) (c : CX)
theorem W_sp : getC [] (Wc A sp c) A.length = some (.lst sp) := by
  rw [getC_eq]
  simp [Wc]
theorem W_row : getC [] (Wc A sp c) (A.length + 1) = some (.lstU (rowsOf (A.length + 2) c)) := by
  rw [getC_eq]
  simp [Wc,Lay]
theorem W_lst {i : Nat} {x : Int × Int × List XE} (h : c[i]? = some x) : getC [] (Wc A sp c) (A.length + 2 + i) = some (.lst (esD x)) := by
  rw [getC_eq,List.nil_append]
  unfold Wc
  rw [List.getElem?_append_right (by omega)]
  have : A.length + 2 + i - A.length = i + 2 := by omega
  rw [this]
  simp [Lay,h]
theorem Ws_sp (sp' : List D) : (Wc A sp c).set A.length (.lst sp') = Wc A sp' c := by
  simp [Wc,List.set_append]
theorem Ws_row {f : Nat} {x x' : Int × Int × List XE} (h : c[f]? = some x) (hx : x'.2.2 = x.2.2) : (Wc A sp c).set (A.length + 1) (.lstU ((rowsOf (A.length + 2) c).set f (.tup [.d (.int x'.1),.d (.int x'.2.1),.ref (A.length + 2 + f)]))) = Wc A sp (c.set f x') := by
  have e1 : (rowsOf (A.length + 2) c).set f (.tup [.d (.int x'.1),.d (.int x'.2.1),.ref (A.length + 2 + f)]) = rowsOf (A.length + 2) (c.set f x') := by
    unfold rowsOf
    apply List.ext_getElem?
    intro i
    rw [List.getElem?_set,List.getElem?_mapIdx,List.getElem?_mapIdx,List.getElem?_set]
    by_cases hi : f = i
    · subst hi
      have := (List.getElem?_eq_some_iff.mp h).1
      simp [this]
    · rw [if_neg hi,if_neg hi]
  have e2 : (c.set f x').map (fun x => Cell.lst (esD x)) = c.map fun x => Cell.lst (esD x) := by
    apply List.ext_getElem?
    intro i
    rw [List.getElem?_map,List.getElem?_map,List.getElem?_set]
    by_cases hi : f = i
    · subst hi
      have := (List.getElem?_eq_some_iff.mp h).1
      rw [if_pos rfl,if_pos this,h]
      simp [esD,hx]
    · rw [if_neg hi]
  rw [e1]
  simp [Wc,Lay,List.set_append,e2]
theorem Ws_lst {f : Nat} {x : Int × Int × List XE} (h : c[f]? = some x) (es : List XE) : (Wc A sp c).set (A.length + 2 + f) (.lst (es.map XE.d)) = Wc A sp (c.set f (x.1,x.2.1,es)) := by
  have hlt := (List.getElem?_eq_some_iff.mp h).1
  have e1 : rowsOf (A.length + 2) (c.set f (x.1,x.2.1,es)) = rowsOf (A.length + 2) c := by
    unfold rowsOf
    apply List.ext_getElem?
    intro i
    rw [List.getElem?_mapIdx,List.getElem?_mapIdx,List.getElem?_set]
    by_cases hi : f = i
    · subst hi
      rw [if_pos rfl,if_pos hlt,h]
      rfl
    · rw [if_neg hi]
  have e2 : (c.set f (x.1,x.2.1,es)).map (fun x => Cell.lst (esD x)) = (c.map fun x => Cell.lst (esD x)).set f (.lst (es.map XE.d)) := by
    rw [List.map_set]
    rfl
  unfold Wc Lay
  rw [e1,e2,List.set_append_right _ _ (by omega)]
  have : A.length + 2 + f - A.length = f + 2 := by omega
  rw [this]
  rfl
end
structure Sp (c0 c : CX) (ps : List (Int × Int)) : Prop where
  len : c.length = c0.length
  sz : ∀ (i : Nat) x x0,c[i]? = some x → c0[i]? = some x0 → x.2.2.length = x0.2.2.length ∧ (((i : Int),(-1 : Int)) ∉ ps → x.1 = x0.1 ∧ x.2.1 = x0.2.1) ∧ (((i : Int),(-1 : Int)) ∈ ps → ¬ szB x) ∧ ∀ (j : Nat) e e0,x.2.2[j]? = some e → x0.2.2[j]? = some e0 → (((i : Int),(j : Int)) ∉ ps → e = e0) ∧ (((i : Int),(j : Int)) ∈ ps → edgB (cxSz c0) i e = false)
  mem : ∀ p ∈ ps,∃ (i : Nat) (x : Int × Int × List XE),c[i]? = some x ∧ p.1 = i ∧ (p.2 = -1 ∨ ∃ j : Nat,j < x.2.2.length ∧ p.2 = j)
theorem Sp.nil (c : CX) : Sp c c [] := by
  refine ⟨rfl,fun i x x0 h h' => ?_,fun p hp => nomatch hp⟩
  cases h.symm.trans h'
  exact ⟨rfl,fun _ => ⟨rfl,rfl⟩,(fun h => nomatch h),fun j e e0 h h' => ⟨fun _ => by cases h.symm.trans h'; rfl,(fun h => nomatch h)⟩⟩
theorem Sp.size {c0 c : CX} {ps : List (Int × Int)} (h : Sp c0 c ps) {f : Nat} {x x' : Int × Int × List XE} (hx : c[f]? = some x) (hb : ¬ szB x') (he : x'.2.2 = x.2.2) : Sp c0 (c.set f x') (ps ++ [((f : Int),(-1 : Int))]) := by
  have hlt := (List.getElem?_eq_some_iff.mp hx).1
  refine ⟨by rw [List.length_set,h.len],fun i y y0 hy hy0 => ?_,fun p hp => ?_⟩
  · rw [List.getElem?_set] at hy
    by_cases hi : f = i
    · subst hi
      rw [if_pos rfl,if_pos hlt] at hy
      cases hy
      obtain ⟨q1,q2,q3,q4⟩ := h.sz f x y0 hx hy0
      refine ⟨by rw [he]; exact q1,fun hn => absurd (by simp) hn,fun _ => hb,fun j e e0 h1 h2 => ?_⟩
      rw [he] at h1
      obtain ⟨k1,k2⟩ := q4 j e e0 h1 h2
      refine ⟨fun hn => k1 fun hm => hn (List.mem_append_left _ hm),fun hm => ?_⟩
      rcases List.mem_append.mp hm with hm | hm
      · exact k2 hm
      · simp at hm
    · rw [if_neg hi] at hy
      obtain ⟨q1,q2,q3,q4⟩ := h.sz i y y0 hy hy0
      have hne : ∀ z : Int,((i : Int),z) ∈ ps ++ [((f : Int),(-1 : Int))] ↔ ((i : Int),z) ∈ ps := fun z => by
        rw [List.mem_append,List.mem_singleton,Prod.mk.injEq]
        constructor
        · rintro (k | k)
          · exact k
          · omega
        · exact .inl
      refine ⟨q1,fun hn => q2 (by rwa [hne] at hn),fun hm => q3 ((hne _).mp hm),fun j e e0 h1 h2 => ?_⟩
      obtain ⟨k1,k2⟩ := q4 j e e0 h1 h2
      exact ⟨fun hn => k1 (by rwa [hne] at hn),fun hm => k2 ((hne _).mp hm)⟩
  · have key : ∀ (i : Nat) (y : Int × Int × List XE),c[i]? = some y → ∃ y',(c.set f x')[i]? = some y' ∧ y'.2.2 = y.2.2 := fun i y hy => by
      rw [List.getElem?_set]
      by_cases hi : f = i
      · subst hi
        rw [if_pos rfl,if_pos hlt]
        cases hx.symm.trans hy
        exact ⟨x',rfl,he⟩
      · rw [if_neg hi]
        exact ⟨y,hy,rfl⟩
    rcases List.mem_append.mp hp with hp | hp
    · obtain ⟨i,y,hy,h1,h2⟩ := h.mem p hp
      obtain ⟨y',hy',e⟩ := key i y hy
      exact ⟨i,y',hy',h1,by rw [e]; exact h2⟩
    · rw [List.mem_singleton] at hp
      subst hp
      obtain ⟨y',hy',e⟩ := key f x hx
      exact ⟨f,y',hy',rfl,.inl rfl⟩
theorem Sp.edge {c0 c : CX} {ps : List (Int × Int)} (h : Sp c0 c ps) {f k : Nat} {x : Int × Int × List XE} {e1 : XE} (hx : c[f]? = some x) (hk : k < x.2.2.length) (hb : edgB (cxSz c0) f e1 = false) : Sp c0 (c.set f (x.1,x.2.1,x.2.2.set k e1)) (ps ++ [((f : Int),(k : Int))]) := by
  have hlt := (List.getElem?_eq_some_iff.mp hx).1
  refine ⟨by rw [List.length_set,h.len],fun i y y0 hy hy0 => ?_,fun p hp => ?_⟩
  · rw [List.getElem?_set] at hy
    by_cases hi : f = i
    · subst hi
      rw [if_pos rfl,if_pos hlt] at hy
      cases hy
      obtain ⟨q1,q2,q3,q4⟩ := h.sz f x y0 hx hy0
      have hne : ∀ z : Int,z ≠ k → (((f : Int),z) ∈ ps ++ [((f : Int),(k : Int))] ↔ ((f : Int),z) ∈ ps) := fun z hz => by
        rw [List.mem_append,List.mem_singleton,Prod.mk.injEq]
        constructor
        · rintro (k | k)
          · exact k
          · omega
        · exact .inl
      refine ⟨by simpa using q1,fun hn => q2 fun hm => hn (List.mem_append_left _ hm),fun hm => q3 ((hne _ (by omega)).mp hm),fun j e e0 h1 h2 => ?_⟩
      rw [List.getElem?_set] at h1
      by_cases hj : k = j
      · subst hj
        rw [if_pos rfl,if_pos hk] at h1
        cases h1
        exact ⟨fun hn => absurd (by simp) hn,fun _ => hb⟩
      · rw [if_neg hj] at h1
        obtain ⟨k1,k2⟩ := q4 j e e0 h1 h2
        have := hne (j : Int) (by omega)
        exact ⟨fun hn => k1 (by rwa [this] at hn),fun hm => k2 (this.mp hm)⟩
    · rw [if_neg hi] at hy
      obtain ⟨q1,q2,q3,q4⟩ := h.sz i y y0 hy hy0
      have hne : ∀ z : Int,((i : Int),z) ∈ ps ++ [((f : Int),(k : Int))] ↔ ((i : Int),z) ∈ ps := fun z => by
        rw [List.mem_append,List.mem_singleton,Prod.mk.injEq]
        constructor
        · rintro (k | k)
          · exact k
          · omega
        · exact .inl
      refine ⟨q1,fun hn => q2 (by rwa [hne] at hn),fun hm => q3 ((hne _).mp hm),fun j e e0 h1 h2 => ?_⟩
      obtain ⟨k1,k2⟩ := q4 j e e0 h1 h2
      exact ⟨fun hn => k1 (by rwa [hne] at hn),fun hm => k2 ((hne _).mp hm)⟩
  · have key : ∀ (i : Nat) (y : Int × Int × List XE),c[i]? = some y → ∃ y',(c.set f (x.1,x.2.1,x.2.2.set k e1))[i]? = some y' ∧ y'.2.2.length = y.2.2.length := fun i y hy => by
      rw [List.getElem?_set]
      by_cases hi : f = i
      · subst hi
        rw [if_pos rfl,if_pos hlt]
        cases hx.symm.trans hy
        exact ⟨_,rfl,by simp⟩
      · rw [if_neg hi]
        exact ⟨y,hy,rfl⟩
    rcases List.mem_append.mp hp with hp | hp
    · obtain ⟨i,y,hy,h1,h2⟩ := h.mem p hp
      obtain ⟨y',hy',e⟩ := key i y hy
      exact ⟨i,y',hy',h1,by rw [e]; exact h2⟩
    · rw [List.mem_singleton] at hp
      subst hp
      obtain ⟨y',hy',e⟩ := key f x hx
      exact ⟨f,y',hy',rfl,.inr ⟨k,by rw [e]; exact hk,rfl⟩⟩
end Lk21
namespace Lk21
open PySem Y Y.S
section
variable {C : Cn} {O T T1 : Cs} {ρ : Rho}
theorem E_tupU {as : CA} {us : List U} (ha : denA C O ρ as T = .ok us T1) (hn : us.length ≤ 1000) : den C O ρ (.tup as) T = .ok (mkT us) T1 := by
  rw [den,ha,R.bind_ok,if_pos (by simp [Y.sizeOk]; omega)]
theorem seti_U {r : Nat} {us : List U} {f : Int} {v : U} (h : getC O T r = some (.lstU us)) (lo : O.length ≤ r) (h0 : 0 ≤ f) (h1 : f < us.length) : setiU O (.ref r) (.d (.int f)) v T = .ok (.d .none) (T.set (r - O.length) (.lstU (us.set f.toNat v))) := by
  unfold setiU
  simp only [h,ixN_of h0 h1]
  unfold setC
  rw [if_pos ⟨lo,own_lt h⟩]
theorem seti_L {r : Nat} {ds : List D} {f : Int} {v : D} (h : getC O T r = some (.lst ds)) (lo : O.length ≤ r) (h0 : 0 ≤ f) (h1 : f < ds.length) : setiU O (.ref r) (.d (.int f)) (.d v) T = .ok (.d .none) (T.set (r - O.length) (.lst (ds.set f.toNat v))) := by
  unfold setiU
  simp only [h,ixN_of h0 h1]
  unfold setC
  rw [if_pos ⟨lo,own_lt h⟩]
end
theorem pick4 (O T : Cs) (a b c d r : Int) (h0 : 0 ≤ r) (h1 : r < 4) : ∃ w,ixU O (.d (.list [.int a,.int b,.int c,.int d])) (.d (.int r)) T = some (.d (.int w)) ∧ (w = a ∨ w = b ∨ w = c ∨ w = d) := by
  obtain rfl | rfl | rfl | rfl : r = 0 ∨ r = 1 ∨ r = 2 ∨ r = 3 := by omega
  · exact ⟨a,rfl,.inl rfl⟩
  · exact ⟨b,rfl,.inr (.inl rfl)⟩
  · exact ⟨c,rfl,.inr (.inr (.inl rfl))⟩
  · exact ⟨d,rfl,.inr (.inr (.inr rfl))⟩
def b15E : CB := (.cons (.asg (.nm 8) (.call false 9 (.cons (.v 1) (.cons (.c (.int 30)) (.cons (.bi false .len (.cons (.v 6) .nil)) .nil))) []))
 (.cons (.ite (.cmp .notin (.tup (.cons (.v 3) (.cons (.v 8) .nil))) (.v 2)) (.cons (.seti (.v 6) (.v 8) (.call false 14 (.cons (.ix (.v 2) (.c (.int 0))) (.cons (.v 3) (.cons (.ix (.v 6) (.v 8)) (.cons (.v 1) .nil)))) []))
  (.cons (.ex (.mt false .append (.v 2) (.cons (.tup (.cons (.v 3) (.cons (.v 8) .nil))) .nil)))
  .nil)) .nil)
 .nil))
def b15S : CB := (.cons (.asg (.nm 7) (.ix (.lst false (.cons (.c (.int 0)) (.cons (.bin false .add (.c (.int 11)) (.bin false .mod (.v 1) (.bin false .pow (.c (.int 10)) (.c (.int 9))))) (.cons (.neg (.c (.int 1))) (.cons (.c (.int 11)) .nil))))) (.call false 9 (.cons (.v 1) (.cons (.c (.int 28)) (.cons (.c (.int 4)) .nil))) [])))
  (.cons (.ite (.cmp .eq (.call false 9 (.cons (.v 1) (.cons (.c (.int 29)) (.cons (.c (.int 2)) .nil))) []) (.c (.int 0))) (.cons (.seti (.v 0) (.v 3) (.tup (.cons (.v 7) (.cons (.v 5) (.cons (.v 6) .nil)))))
   .nil) (.cons (.seti (.v 0) (.v 3) (.tup (.cons (.v 4) (.cons (.ix (.lst false (.cons (.c (.int 0)) (.cons (.bin false .add (.c (.int 7)) (.bin false .mod (.v 1) (.bin false .pow (.c (.int 10)) (.c (.int 9))))) (.cons (.neg (.c (.int 1))) (.cons (.c (.int 7)) .nil))))) (.call false 9 (.cons (.v 1) (.cons (.c (.int 28)) (.cons (.c (.int 4)) .nil))) [])) (.cons (.v 6) .nil)))))
   .nil))
  (.cons (.ex (.mt false .append (.v 2) (.cons (.tup (.cons (.v 3) (.cons (.neg (.c (.int 1))) .nil))) .nil)))
  (.cons .retN
  .nil))))
theorem b15_eq : b15 = (.cons (.asg (.nm 3) (.call false 9 (.cons (.v 1) (.cons (.c (.int 26)) (.cons (.bi false .len (.cons (.v 0) .nil)) .nil))) []))
 (.cons (.asg (.tp (.cons (.nm 4) (.cons (.nm 5) (.cons (.nm 6) .nil)))) (.ix (.v 0) (.v 3)))
 (.cons (.ite (.or (.cmp .eq (.v 6) (.lst false .nil)) (.cmp .eq (.call false 9 (.cons (.v 1) (.cons (.c (.int 27)) (.cons (.c (.int 4)) .nil))) []) (.c (.int 0)))) b15S .nil)
 b15E))) := rfl
theorem wrong_ok (n : Nat) (A : Cs) (c0 c : CX) (ps : List (Int × Int)) (cell : Int) (g0 : Good c0) (h : Sp c0 c ps) (hm : manyX c0 ≤ 24) (hpl : ps.length ≤ 10) : ∃ c' ps',Y.run G (n + 4) [] 15 [.ref (A.length + 1),.d (.int cell),.ref A.length] (Wc A (.list (cxD c0) :: ps.map pairD) c) = .ok (.d .none) (Wc A (.list (cxD c0) :: ps'.map pairD) c') ∧ Sp c0 c' ps' ∧ ps' ≠ [] ∧ ps'.length ≤ ps.length + 1 := by
  suffices hg : Gv (Y.run G (n + 4) [] 15 [.ref (A.length + 1),.d (.int cell),.ref A.length] (Wc A (.list (cxD c0) :: ps.map pairD) c)) fun v T' => ∃ c' ps',v = .d .none ∧ T' = Wc A (.list (cxD c0) :: ps'.map pairD) c' ∧ Sp c0 c' ps' ∧ ps' ≠ [] ∧ ps'.length ≤ ps.length + 1 by
    obtain ⟨v,T',er,c',ps',rfl,rfl,h1⟩ := hg.ex
    exact ⟨c',ps',er,h1⟩
  refine run_wp G15 rfl ?_
  have hp : PickOk (cn G (n + 3)) 9 := pick_run (G := G) rfl (n + 2)
  have hl0 := (szOk_iff c0).mp g0.s
  have hsp := fun (T : Cs) (f : Int) (f0 : 0 ≤ f) (f1 : f < c0.length) (e : XE) => spoilt_ok n [] T (.d (.list (cxD c0))) (cxSz c0) g0.s f f0 (by rw [sz_len]; exact f1) e cell (ChRep.v (.inl rfl)) (by rw [sz_len]; exact ChRep.len (.inl rfl))
  generalize cn G (n + 3) = C at *
  show Wp (denB C [] b15 [some (.ref (A.length + 1)),some (.d (.int cell)),some (.ref A.length),none,none,none,none,none,none] (Wc A (.list (cxD c0) :: ps.map pairD) c)) _ _ _ _
  rw [b15_eq]
  have gr := W_row A (.list (cxD c0) :: ps.map pairD) c
  have gs := W_sp A (.list (cxD c0) :: ps.map pairD) c
  have hlen := h.len
  have hln : biU [] false .len [.ref (A.length + 1)] (Wc A (.list (cxD c0) :: ps.map pairD) c) = .ok (.d (.int c.length)) (Wc A (.list (cxD c0) :: ps.map pairD) c) := by
    have := W_lenRU (l := false) gr
    rwa [rows_len] at this
  obtain ⟨f,f0,f1,ef⟩ := hp [] (Wc A (.list (cxD c0) :: ps.map pairD) c) cell 26 c.length (by omega)
  obtain ⟨r27,a0,a1,e27⟩ := hp [] (Wc A (.list (cxD c0) :: ps.map pairD) c) cell 27 4 (by decide)
  obtain ⟨r28,b0,b1,e28⟩ := hp [] (Wc A (.list (cxD c0) :: ps.map pairD) c) cell 28 4 (by decide)
  obtain ⟨r29,c0',c1',e29⟩ := hp [] (Wc A (.list (cxD c0) :: ps.map pairD) c) cell 29 2 (by decide)
  obtain ⟨fn,rfl⟩ : ∃ fn : Nat,f = fn := ⟨f.toNat,by omega⟩
  have hfl : fn < c.length := by omega
  have hx : c[fn]? = some c[fn] := List.getElem?_eq_getElem hfl
  generalize c[fn] = x at hx
  have gl := W_lst A (.list (cxD c0) :: ps.map pairD) c hx
  have hat : L2.atI (rowsOf (A.length + 2) c) (fn : Int) = some (.tup [.d (.int x.1),.d (.int x.2.1),.ref (A.length + 2 + fn)]) := by
    rw [atI_nat _ _ (by omega) (by rw [rows_len]; omega)]
    unfold rowsOf
    rw [Int.toNat_natCast,List.getElem?_mapIdx,hx]
    rfl
  have hix := ixU_atU gr hat
  refine sA_asg (u := .d (.int fn)) (T' := Wc A (.list (cxD c0) :: ps.map pairD) c) (E_callD (EA_cons (E_v rfl) (EA_cons (E_c _) (EA_cons (E_bi (EA_cons (E_v rfl) EA_nil) hln) EA_nil))) rfl ef) (by sizeOf_list_dec) ?_
  refine st_asgT (ρ' := [some (.ref (A.length + 1)),some (.d (.int cell)),some (.ref A.length),some (.d (.int fn)),some (.d (.int x.1)),some (.d (.int x.2.1)),some (.ref (A.length + 2 + fn)),none,none]) (E_ix (E_v rfl) (E_v rfl) hix) rfl ?_
  have hpl' : (PyData.list (cxD c0) :: ps.map pairD).length ≤ 1000000 := by simp; omega
  refine sA_ite (v := x.2.2.isEmpty || decide (r27 = 0)) (T' := Wc A (.list (cxD c0) :: ps.map pairD) c) (E_or (E_cmp (E_v rfl) (E_lst EA_nil (by exact AD_nil) (by decide)) (eq_nil _ _ _ x gl)) fun _ => E_cmp (E_callD (EA_cons (E_v rfl) (EA_cons (E_c _) (EA_cons (E_c _) EA_nil))) rfl e27) (E_c _) (K_eqI _ _)) (fun _ => ?_) fun hne => st_nil ?_
  · unfold b15S
    obtain ⟨w,hw,hwv⟩ := pick4 [] (Wc A (.list (cxD c0) :: ps.map pairD) c) 0 (11 + cell % 1000000000) (-1) 11 r28 b0 b1
    obtain ⟨w',hw',hwv'⟩ := pick4 [] (Wc A (.list (cxD c0) :: ps.map pairD) c) 0 (7 + cell % 1000000000) (-1) 7 r28 b0 b1
    have hcm := Int.emod_nonneg cell (show (1000000000 : Int) ≠ 0 by decide)
    have hp9 := pow9 [] (Wc A (.list (cxD c0) :: ps.map pairD) c) false
    refine sA_asg (u := .d (.int w)) (T' := Wc A (.list (cxD c0) :: ps.map pairD) c) (E_ix (E_lst (EA_cons (E_c _) (EA_cons (E_bin (E_c _) (E_bin (E_v rfl) (E_bin (E_c _) (E_c _) hp9) (V_mod (by decide))) rfl) (EA_cons (E_neg (E_c _)) (EA_cons (E_c _) EA_nil)))) (by exact AD_cons (AD_cons (AD_cons (AD_cons AD_nil)))) (by decide)) (E_callD (EA_cons (E_v rfl) (EA_cons (E_c _) (EA_cons (E_c _) EA_nil))) rfl e28) hw) (by sizeOf_list_dec) ?_
    have fin : ∀ x' : Int × Int × List XE,¬ szB x' → x'.2.2 = x.2.2 → Wp (denB C [] (.cons (.ex (.mt false .append (.v 2) (.cons (.tup (.cons (.v 3) (.cons (.neg (.c (.int 1))) .nil))) .nil))) (.cons .retN .nil)) [some (.ref (A.length + 1)),some (.d (.int cell)),some (.ref A.length),some (.d (.int fn)),some (.d (.int x.1)),some (.d (.int x.2.1)),some (.ref (A.length + 2 + fn)),some (.d (.int w)),none] (Wc A (.list (cxD c0) :: ps.map pairD) (c.set fn x')))
        (fun ρ T => Wp (denB C [] b15E ρ T) (fun _ T' => ∃ c' ps',U.d PyData.none = .d .none ∧ T' = Wc A (.list (cxD c0) :: ps'.map pairD) c' ∧ Sp c0 c' ps' ∧ ps' ≠ [] ∧ ps'.length ≤ ps.length + 1) (fun _ _ => False) (fun _ _ => False) fun v T' => ∃ c' ps',v = .d .none ∧ T' = Wc A (.list (cxD c0) :: ps'.map pairD) c' ∧ Sp c0 c' ps' ∧ ps' ≠ [] ∧ ps'.length ≤ ps.length + 1) (fun _ _ => False) (fun _ _ => False) fun v T' => ∃ c' ps',v = .d .none ∧ T' = Wc A (.list (cxD c0) :: ps'.map pairD) c' ∧ Sp c0 c' ps' ∧ ps' ≠ [] ∧ ps'.length ≤ ps.length + 1 := by
      intro x' hb he
      have gs' := W_sp A (.list (cxD c0) :: ps.map pairD) (c.set fn x')
      have hap := V_app (l := false) (x := pairD ((fn : Int),(-1 : Int))) gs' (Nat.zero_le _) hpl'
      refine st_ex (E_mt (E_v rfl) (TY_ref gs' rfl) (EA_cons (E_tup (EA_cons (E_v rfl) (EA_cons (E_neg (E_c _)) EA_nil)) (by exact AD_cons (AD_cons AD_nil)) (by decide)) EA_nil) hap) ?_
      refine sA_retN ⟨c.set fn x',ps ++ [((fn : Int),(-1 : Int))],rfl, ?_,h.size hx hb he,by simp,by simp⟩
      rw [List.length_nil,Nat.sub_zero,Ws_sp,List.map_append]
      rfl
    refine sA_ite (v := decide (r29 = 0)) (T' := Wc A (.list (cxD c0) :: ps.map pairD) c) (E_cmp (E_callD (EA_cons (E_v rfl) (EA_cons (E_c _) (EA_cons (E_c _) EA_nil))) rfl e29) (E_c _) (K_eqI _ _)) (fun _ => ?_) fun _ => ?_
    · have hs := seti_U (v := .tup [.d (.int w),.d (.int x.2.1),.ref (A.length + 2 + fn)]) gr (Nat.zero_le _) f0 (by rw [rows_len]; exact f1)
      rw [List.length_nil,Nat.sub_zero,Int.toNat_natCast] at hs
      rw [Ws_row A _ c (x' := (w,x.2.1,x.2.2)) hx rfl] at hs
      refine sA_seti (E_tupU (EA_cons (E_v rfl) (EA_cons (E_v rfl) (EA_cons (E_v rfl) EA_nil))) (by simp)) (E_v rfl) (E_v rfl) hs (st_nil ?_)
      exact fin _ (fun hh => by have := hh.1; have := hh.2.1; simp only at *; omega) rfl
    · have hs := seti_U (v := .tup [.d (.int x.1),.d (.int w'),.ref (A.length + 2 + fn)]) gr (Nat.zero_le _) f0 (by rw [rows_len]; exact f1)
      rw [List.length_nil,Nat.sub_zero,Int.toNat_natCast] at hs
      rw [Ws_row A _ c (x' := (x.1,w',x.2.2)) hx rfl] at hs
      refine sA_seti (E_tupU (us := [.d (.int x.1),.d (.int w'),.ref (A.length + 2 + fn)]) (EA_cons (E_v rfl) (EA_cons (E_ix (E_lst (EA_cons (E_c _) (EA_cons (E_bin (E_c _) (E_bin (E_v rfl) (E_bin (E_c _) (E_c _) hp9) (V_mod (by decide))) rfl) (EA_cons (E_neg (E_c _)) (EA_cons (E_c _) EA_nil)))) (by exact AD_cons (AD_cons (AD_cons (AD_cons AD_nil)))) (by decide)) (E_callD (EA_cons (E_v rfl) (EA_cons (E_c _) (EA_cons (E_c _) EA_nil))) rfl e28) hw') (EA_cons (E_v rfl) EA_nil))) (by simp)) (E_v rfl) (E_v rfl) hs (st_nil ?_)
      exact fin _ (fun hh => by have := hh.2.2.1; have := hh.2.2.2; simp only at *; omega) rfl
  · unfold b15E
    have hne' : x.2.2 ≠ [] := fun e => by
      rw [e] at hne
      simp at hne
    have hpos : 0 < x.2.2.length := List.length_pos_iff.mpr hne'
    have hle : biU [] false .len [.ref (A.length + 2 + fn)] (Wc A (.list (cxD c0) :: ps.map pairD) c) = .ok (.d (.int x.2.2.length)) (Wc A (.list (cxD c0) :: ps.map pairD) c) := by
      have := W_lenR (l := false) gl
      rwa [esD,List.length_map] at this
    obtain ⟨k,k0,k1,ek⟩ := hp [] (Wc A (.list (cxD c0) :: ps.map pairD) c) cell 30 x.2.2.length (by omega)
    obtain ⟨kn,rfl⟩ : ∃ kn : Nat,k = kn := ⟨k.toNat,by omega⟩
    have hkl : kn < x.2.2.length := by omega
    have hxe : x.2.2[kn]? = some x.2.2[kn] := List.getElem?_eq_getElem hkl
    generalize x.2.2[kn] = e at hxe
    have hfl0 : fn < c0.length := by omega
    have hx0 : c0[fn]? = some c0[fn] := List.getElem?_eq_getElem hfl0
    generalize c0[fn] = x0 at hx0
    obtain ⟨q1,_,_,q4⟩ := h.sz fn x x0 hx hx0
    have hxe0 : x0.2.2[kn]? = some (x0.2.2[kn]'(by omega)) := List.getElem?_eq_getElem _
    generalize x0.2.2[kn]'(by omega) = e0 at hxe0
    have hp2 := (q4 kn e e0 hxe hxe0).1
    refine sA_asg (u := .d (.int kn)) (T' := Wc A (.list (cxD c0) :: ps.map pairD) c) (E_callD (EA_cons (E_v rfl) (EA_cons (E_c _) (EA_cons (E_bi (EA_cons (E_v rfl) EA_nil) hle) EA_nil))) rfl ek) (by sizeOf_list_dec) ?_
    refine sA_ite (v := !decide (((fn : Int),(kn : Int)) ∈ ps)) (T' := Wc A (.list (cxD c0) :: ps.map pairD) c) (E_cmp (E_tup (EA_cons (E_v rfl) (EA_cons (E_v rfl) EA_nil)) (by exact AD_cons (AD_cons AD_nil)) (by decide)) (E_v rfl) (nin_sp [] _ _ c0 ps ((fn : Int),(kn : Int)) gs)) (fun hv => ?_) fun hv => st_nil (st_nil ?_)
    · have hnm : ((fn : Int),(kn : Int)) ∉ ps := by simpa using hv
      obtain rfl := hp2 hnm
      have hge := g0.e fn x0 hx0 e (List.mem_of_getElem? hxe0)
      obtain ⟨e',he',ecl⟩ := hsp (Wc A (.list (cxD c0) :: ps.map pairD) c) fn f0 (by omega) e (by rw [Int.toNat_natCast]; exact hge)
      rw [Int.toNat_natCast] at he'
      have hixe : ixU [] (.ref (A.length + 2 + fn)) (.d (.int kn)) (Wc A (.list (cxD c0) :: ps.map pairD) c) = some (.d e.d) := ixU_at gl (by
        rw [atI_nat _ _ (by omega) (by rw [esD,List.length_map]; omega),Int.toNat_natCast,esD,List.getElem?_map,hxe]
        rfl)
      have hix0 : ixU [] (.ref A.length) (.d (.int 0)) (Wc A (.list (cxD c0) :: ps.map pairD) c) = some (.d (.list (cxD c0))) := ixU_at gs (by rw [atI_nat _ _ (by decide) (by rw [List.length_cons]; omega)]; rfl)
      have hs := seti_L (v := e'.d) gl (Nat.zero_le _) k0 (by rw [esD,List.length_map]; exact k1)
      have hes : (esD x).set kn e'.d = (x.2.2.set kn e').map XE.d := by rw [esD,List.map_set]
      rw [List.length_nil,Nat.sub_zero,Int.toNat_natCast,hes,Ws_lst A _ c hx] at hs
      refine sA_seti (E_callD (EA_cons (E_ix (E_v rfl) (E_c _) hix0) (EA_cons (E_v rfl) (EA_cons (E_ix (E_v rfl) (E_v rfl) hixe) (EA_cons (E_v rfl) EA_nil)))) rfl ecl) (E_v rfl) (E_v rfl) hs ?_
      have gs' := W_sp A (.list (cxD c0) :: ps.map pairD) (c.set fn (x.1,x.2.1,x.2.2.set kn e'))
      have hap := V_app (l := false) (x := pairD ((fn : Int),(kn : Int))) gs' (Nat.zero_le _) hpl'
      refine st_ex (E_mt (E_v rfl) (TY_ref gs' rfl) (EA_cons (E_tup (EA_cons (E_v rfl) (EA_cons (E_v rfl) EA_nil)) (by exact AD_cons (AD_cons AD_nil)) (by decide)) EA_nil) hap) (st_nil (st_nil ?_))
      refine ⟨c.set fn (x.1,x.2.1,x.2.2.set kn e'),ps ++ [((fn : Int),(kn : Int))],rfl, ?_,h.edge hx hkl he',by simp,by simp⟩
      rw [List.length_nil,Nat.sub_zero,Ws_sp,List.map_append]
      rfl
    · have hmm : ((fn : Int),(kn : Int)) ∈ ps := by simpa using hv
      exact ⟨c,ps,rfl,rfl,h,List.ne_nil_of_mem hmm,by omega⟩
end Lk21
namespace Lk21
open PySem Y Y.S
section
variable (O : Cs) (c : CX)
theorem L_row : getC O (Lay O.length c) O.length = some (.lstU (rowsOf (O.length + 1) c)) := by
  rw [getC_0]
  rfl
theorem L_lst {i : Nat} {x : Int × Int × List XE} (h : c[i]? = some x) : getC O (Lay O.length c) (O.length + 1 + i) = some (.lst (esD x)) := by
  rw [Nat.add_assoc,getC_k,Nat.add_comm 1 i]
  simp [Lay,h]
theorem Ls_row {k f : Nat} {x x' : Int × Int × List XE} (h : c[f]? = some x) (hx : x'.2.2 = x.2.2) : (Lay k c).set 0 (.lstU ((rowsOf (k + 1) c).set f (.tup [.d (.int x'.1),.d (.int x'.2.1),.ref (k + 1 + f)]))) = Lay k (c.set f x') := by
  have e1 : (rowsOf (k + 1) c).set f (.tup [.d (.int x'.1),.d (.int x'.2.1),.ref (k + 1 + f)]) = rowsOf (k + 1) (c.set f x') := by
    unfold rowsOf
    apply List.ext_getElem?
    intro i
    rw [List.getElem?_set,List.getElem?_mapIdx,List.getElem?_mapIdx,List.getElem?_set]
    by_cases hi : f = i
    · subst hi
      have := (List.getElem?_eq_some_iff.mp h).1
      simp [this]
    · rw [if_neg hi,if_neg hi]
  have e2 : (c.set f x').map (fun x => Cell.lst (esD x)) = c.map fun x => Cell.lst (esD x) := by
    apply List.ext_getElem?
    intro i
    rw [List.getElem?_map,List.getElem?_map,List.getElem?_set]
    by_cases hi : f = i
    · subst hi
      have := (List.getElem?_eq_some_iff.mp h).1
      rw [if_pos rfl,if_pos this,h]
      simp [esD,hx]
    · rw [if_neg hi]
  rw [e1]
  simp [Lay,e2]
theorem Ls_lst {k f : Nat} {x : Int × Int × List XE} (h : c[f]? = some x) (es : List XE) : (Lay k c).set (1 + f) (.lst (es.map XE.d)) = Lay k (c.set f (x.1,x.2.1,es)) := by
  have hlt := (List.getElem?_eq_some_iff.mp h).1
  have e1 : rowsOf (k + 1) (c.set f (x.1,x.2.1,es)) = rowsOf (k + 1) c := by
    unfold rowsOf
    apply List.ext_getElem?
    intro i
    rw [List.getElem?_mapIdx,List.getElem?_mapIdx,List.getElem?_set]
    by_cases hi : f = i
    · subst hi
      rw [if_pos rfl,if_pos hlt,h]
      rfl
    · rw [if_neg hi]
  have e2 : (c.set f (x.1,x.2.1,es)).map (fun x => Cell.lst (esD x)) = (c.map fun x => Cell.lst (esD x)).set f (.lst (es.map XE.d)) := by
    rw [List.map_set]
    rfl
  unfold Lay
  rw [e1,e2,Nat.add_comm 1 f,List.set_cons_succ]
theorem L_rep : ChRep O (Lay O.length c) (.ref O.length) c := by
  have := lay_rep O [] [] c
  simpa using this
end
theorem row_at (k : Nat) (c : CX) {f : Nat} {x : Int × Int × List XE} (hx : c[f]? = some x) : L2.atI (rowsOf k c) (f : Int) = some (.tup [.d (.int x.1),.d (.int x.2.1),.ref (k + f)]) := by
  have := (List.getElem?_eq_some_iff.mp hx).1
  rw [atI_nat _ _ (by omega) (by rw [rows_len]; omega)]
  unfold rowsOf
  rw [Int.toNat_natCast,List.getElem?_mapIdx,hx]
  rfl
theorem eq_pair (O T : Cs) (p q : Int × Int) : cmpU O .eq (.d (pairD p)) (.d (pairD q)) T = some (decide (p = q)) := by
  unfold cmpU
  simp only [toD_d]
  rw [(show shp (pairD p) = true from rfl),(show shp (pairD q) = true from rfl),eqv_pair]
  rfl
theorem noB_tD (t : List Int) : noB (tD t) = true := by
  show noBs (t.map .int) = true
  exact noBs_map _ (fun _ => rfl) t
theorem noB_xe (e : XE) : noB e.d = true := by
  cases e with
  | st p q c t =>
    show noBs [.str "step",.int p,.int q,.int c,tD t] = true
    simp [noBs,noB,noB_tD]
  | ca p q c g a b t =>
    show noBs [.str "call",.int p,.int q,.int c,.int g,tD a,tD b,tD t] = true
    simp [noBs,noB,noB_tD]
theorem eq_xe (O T : Cs) (e e' : XE) : cmpU O .eq (.d e.d) (.d e'.d) T = some (PyData.eqv e.d e'.d) := by
  unfold cmpU
  simp only [toD_d]
  rw [(lay_xe e).shp (by decide),(lay_xe e').shp (by decide)]
  rfl
def stX (c : Int) (m : Int) : XE := .st 0 0 c (List.replicate m.toNat 0)
theorem zeros (O T : Cs) (l : Bool) {m : Int} (h1 : 1 ≤ m) (h2 : m ≤ 1000) : binU O l .mul (.d (.tuple [.int 0])) (.d (.int m)) T = .ok (.d (tD (List.replicate m.toNat 0))) T := by
  show (if !([U.d (.int 0)] : List U).isEmpty && decide (1 ≤ m) && decide (m ≤ 1000) && decide (([U.d (.int 0)] : List U).length ≤ 1000) then R.ok (mkT (List.replicate m.toNat [U.d (.int 0)]).flatten) T else .fail) = _
  rw [decide_eq_true h1,decide_eq_true h2]
  show R.ok (mkT (List.replicate m.toNat [U.d (.int 0)]).flatten) T = _
  have e : (List.replicate m.toNat [U.d (.int 0)]).flatten = ((List.replicate m.toNat (0 : Int)).map PyData.int).map U.d := by
    generalize m.toNat = k
    induction k with
    | zero => rfl
    | succ k ih => rw [List.replicate_succ,List.flatten_cons,ih]; rfl
  rw [e,mkT_map]
  rfl
theorem many_l (O T : Cs) (d : D) {m : Int} (h1 : 0 ≤ m) (h2 : m ≤ 1000) : binU O false .mul (.d (.list [d])) (.d (.int m)) T = .ok (.d (.list (List.replicate m.toNat d))) T := by
  show (if decide (0 ≤ m) && decide (m ≤ 1000000) && Y.sizeOk ((([d] : List D).map U.d).length * m.toNat) then mkL O false (List.replicate m.toNat (([d] : List D).map U.d)).flatten T else .fail) = _
  have hs : Y.sizeOk ((([d] : List D).map U.d).length * m.toNat) = true := by simp [Y.sizeOk]; omega
  rw [decide_eq_true h1,decide_eq_true (show m ≤ 1000000 by omega),hs]
  show mkL O false (List.replicate m.toNat [U.d d]).flatten T = _
  have e : (List.replicate m.toNat [U.d d]).flatten = (List.replicate m.toNat d).map U.d := by
    generalize m.toNat = k
    induction k with
    | zero => rfl
    | succ k ih => rw [List.replicate_succ,List.flatten_cons,ih]; rfl
  rw [e,mkL_map]
theorem ext_ok {O T : Cs} {l : Bool} {r : Nat} {ds ws : List D} (hg : getC O T r = some (.lst ds)) (lo : O.length ≤ r) (hl : ds.length + ws.length ≤ 1000000) : mtU O l .extend (.ref r) [.d (.list ws)] T = .ok (.d .none) (T.set (r - O.length) (.lst (ds ++ ws))) := by
  show (match getC O T r,seqL O T (.d (.list ws)) with
    | some (.lst ds),some ws => if Y.sizeOk (ds.length + ws.length) then setC O T r (Y.cellOf (ds.map U.d ++ ws)) else .fail
    | some (.lstU us),some ws => if Y.sizeOk (us.length + ws.length) then setC O T r (.lstU (us ++ ws)) else .fail
    | _,_ => .fail) = _
  rw [hg,seqL_d]
  simp only
  rw [if_pos (by simpa [Y.sizeOk] using hl),← List.map_append,cellOf_map]
  unfold setC
  rw [if_pos ⟨lo,own_lt hg⟩]
theorem ins_ok {O T : Cs} {l : Bool} {r : Nat} {ds : List D} {x : D} {i : Int} (hg : getC O T r = some (.lst ds)) (lo : O.length ≤ r) (h0 : 0 ≤ i) (h1 : i ≤ 1000000) (hl : ds.length ≤ 1000000) : mtU O l .insert (.ref r) [.d (.int i),.d x] T = .ok (.d .none) (T.set (r - O.length) (.lst (ds.take i.toNat ++ [x] ++ ds.drop i.toNat))) := by
  show (match getC O T r with
    | some (.lst ds) => if decide (0 ≤ i) && decide (i ≤ 1000000) && Y.sizeOk ds.length then setC O T r (.lst (ds.take i.toNat ++ [x] ++ ds.drop i.toNat)) else .fail
    | _ => .fail) = _
  rw [hg]
  simp only
  rw [if_pos (by simp [Y.sizeOk,h0,h1,hl])]
  unfold setC
  rw [if_pos ⟨lo,own_lt hg⟩]
theorem st1_yes {s : Sz} (hs : SzOk s) {P m : Int} (h : s[0]? = some (P,m)) : edgB s 0 (stX 1 m) = true := by
  have hb := sz_b hs h
  unfold stX
  simp only [edgB,h]
  have e1 : headB P 0 0 1 = true := decide_eq_true (by omega)
  have e2 : tabB (List.replicate m.toNat 0) m m = true := by
    unfold tabB
    rw [Bool.and_eq_true,decide_eq_true_eq,List.all_eq_true]
    refine ⟨by rw [List.length_replicate]; omega,fun r hr => ?_⟩
    have := (List.mem_replicate.mp hr).2
    subst this
    exact decide_eq_true ⟨by decide,Int.pow_pos (by decide)⟩
  rw [e1,e2]
  rfl
theorem st0_no {s : Sz} {f : Nat} {m : Int} {e : XE} (h : e.d = (stX 0 m).d) : edgB s f e = false := by
  unfold stX at h
  cases e with
  | ca p q c g a b t =>
    simp [XE.d] at h
  | st p q c t =>
    simp [XE.d] at h
    obtain ⟨_,_,hc,_⟩ := h
    subst hc
    simp only [edgB]
    cases s[f]? with
    | none => rfl
    | some z =>
      have : headB z.1 p q 0 = false := hd_no (by omega)
      simp only
      rw [this]
      rfl
structure Full (c0 c : CX) (m : Int) : Prop where
  sz : cxSz c = cxSz c0
  ed : ∀ (i : Nat) x,c[i]? = some x → ∀ e ∈ x.2.2,edgB (cxSz c0) i e = true ∨ e = stX 0 m
  many : 25 ≤ manyX c
  le : manyX c ≤ 100
theorem sum_set {c : CX} {f : Nat} {x x' : Int × Int × List XE} (h : c[f]? = some x) : manyX (c.set f x') + x.2.2.length = manyX c + x'.2.2.length := by
  unfold manyX
  induction c generalizing f with
  | nil => cases h
  | cons y r ih =>
    cases f with
    | zero =>
      cases h
      simp
      omega
    | succ f =>
      have := ih (f := f) (by simpa using h)
      rw [List.set_cons_succ,List.map_cons,List.map_cons,List.sum_cons,List.sum_cons]
      omega
theorem sz_set {c : CX} {f : Nat} {x x' : Int × Int × List XE} (h : c[f]? = some x) (h1 : x'.1 = x.1) (h2 : x'.2.1 = x.2.1) : cxSz (c.set f x') = cxSz c := by
  unfold cxSz
  apply List.ext_getElem?
  intro i
  rw [List.getElem?_map,List.getElem?_map,List.getElem?_set]
  by_cases hi : f = i
  · subst hi
    have := (List.getElem?_eq_some_iff.mp h).1
    rw [if_pos rfl,if_pos this,h]
    simp [h1,h2]
  · rw [if_neg hi]
end Lk21
namespace Lk21
open PySem Y Y.S
abbrev Yes (u : U) (_ : Cs) : Prop := u = .d (.bool true)
def b18I : CB := (.cons (.asg (.nm 6) (.bin false .add (.v 6) (.c (.int 1))))
   (.cons (.ite (.or (.cmp .eq (.v 6) (.c (.int 25))) (.cmp .eq (.v 9) (.v 5))) (.cons (.ret (.cmp .eq (.call false 16 (.cons (.v 2) .nil) []) (.tup (.cons (.v 7) (.cons (.v 8) .nil)))))
    .nil) .nil)
   .nil))
def b18O : CB := (.cons (.for_ (.tp (.cons (.nm 8) (.cons (.nm 9) .nil))) (.enumL (.ix (.v 4) (.c (.int 2)))) b18I) .nil)
def b18T : CB := (.cons (.for_ (.tp (.cons (.nm 7) (.cons (.nm 4) .nil))) (.enumL (.v 2)) b18O)
 (.cons (.ret (.c (.bool false)))
 .nil))
theorem K_pair (O T : Cs) (i j : Int) : cmpU O .eq (.d (.tuple [.int i,.int j])) (.d (.tuple [.int i,.int j])) T = some true :=
  (eq_pair O T (i,j) (i,j)).trans (by rw [decide_eq_true rfl])
theorem tail18 {nx bk ct : Rho → Cs → Prop} {C : Cn} {O : Cs} {c0 c : CX} {m : Int} (g0 : Good c0) (F : Full c0 c m) (hC : ∀ f e,First c f e → callP C O 16 [.ref O.length] (Lay O.length c) = .ok (.d (.tuple [.int f,.int e])) (Lay O.length c)) (u0 u1 u3 a4 a7 a8 a9 : Option U) :
    Wp (denB C O b18T [u0,u1,some (.ref O.length),u3,a4,some (.d (stX 0 m).d),some (.d (.int 0)),a7,a8,a9] (Lay O.length c)) nx bk ct Yes := by
  have hs : SzOk (cxSz c) := by rw [F.sz]; exact g0.s
  have hF := F.ed
  rw [← F.sz] at hF
  have h := L_rep O c
  obtain ⟨us,hseq,hul,hit,hsw⟩ := h.seq
  have hsw := hsw (Lay O.length c) fun i c e => e
  generalize Lay O.length c = T at *
  unfold b18T
  have hen : ∀ ρ : Rho,ρ[2]? = some (some (.ref O.length)) → denI C O ρ (.enumL (.v 2)) T = .ok ⟨us.zipIdx.map fun p => mkT [.d (.int (p.2 : Nat)),p.1],watch (.ref O.length),T⟩ T := fun ρ h0 => by
    rw [denI_enumL,den_v,h0,R.bind_ok,hseq]
  have hlz : (us.zipIdx.map fun p => mkT [.d (.int (p.2 : Nat)),p.1]).length = us.length := by simp
  have hat : ∀ (i : Nat) (uu : U),(us.zipIdx.map fun p => mkT [.d (.int (p.2 : Nat)),p.1])[i]? = some uu → ∃ x w,c[i]? = some x ∧ ItemR O T x w ∧ uu = mkT [.d (.int (i : Int)),w] := by
    intro i uu hu
    have hi : i < us.length := by
      have := (List.getElem?_eq_some_iff.mp hu).1
      simpa using this
    have hxx : c[i]? = some (c[i]'(by omega)) := List.getElem?_eq_getElem _
    obtain ⟨w,hw,hI⟩ := hit i _ hxx
    exact ⟨_,w,hxx,hI,en_at hw hu⟩
  generalize hwr : (stX 0 m).d = wr
  refine st_for ⟨us.zipIdx.map fun p => mkT [.d (.int (p.2 : Nat)),p.1],watch (.ref O.length),T⟩ T (fun i ρ T2 => T2 = T ∧ Bef c i 0 ∧ pre c i ≤ 24 ∧ ∃ (a4 a7 a8 a9 : Option U) (v : Int),v = (pre c i : Nat) ∧ ρ = [u0,u1,some (.ref O.length),u3,a4,some (.d wr),some (.d (.int v)),a7,a8,a9]) (hen _ rfl) ⟨rfl,fun i' x' j' e' _ _ hlt => by omega,by simp [pre],a4,a7,a8,a9,0,by simp [pre],rfl⟩ ?_ ?_ ?_
  · rintro i ρ T2 ⟨rfl,_⟩
    exact hsw
  · rintro i uu hu ρ T2 ⟨rfl,hB,hp,a4,a7,a8,a9,v,hv,rfl⟩
    obtain ⟨x,w,hx,hI,rfl⟩ := hat i uu hu
    obtain ⟨h0,h1,⟨es,_,h2,h3,h4⟩,hsq⟩ := hI.at
    refine ⟨[u0,u1,some (.ref O.length),u3,some w,some (.d wr),some (.d (.int v)),some (.d (.int (i : Int))),a8,a9],by simp [hsq (i : Int)], ?_⟩
    have hse : sameW O T2 T2 (watch es) = true := by
      rcases h4 with rfl | ⟨j,rfl,hj⟩
      · rfl
      · exact sameW_refl hj hj (.inl ⟨_,rfl⟩)
    unfold b18O
    refine st_for ⟨((esD x).map U.d).zipIdx.map fun p => mkT [.d (.int (p.2 : Nat)),p.1],watch es,T2⟩ T2 (fun j ρ T' => T' = T2 ∧ Bef c i j ∧ pre c i + j ≤ 24 ∧ ∃ (a8 a9 : Option U) (y : Int),y = v + j ∧ ρ = [u0,u1,some (.ref O.length),u3,some w,some (.d wr),some (.d (.int y)),some (.d (.int (i : Int))),a8,a9]) ?_ ⟨rfl,hB,hp,a8,a9,v,by simp,rfl⟩ ?_ ?_ ?_
    · rw [denI_enumL,E_ix (E_v rfl) (E_c _) h2,R.bind_ok,h3]
    · rintro i ρ T' ⟨rfl,_⟩
      exact hse
    · rintro j uu hu ρ T3 ⟨rfl,hB,hp,a8,a9,y,hy,rfl⟩
      have hj : j < x.2.2.length := by
        have := (List.getElem?_eq_some_iff.mp hu).1
        simpa [esD] using this
      have hee : x.2.2[j]? = some x.2.2[j] := List.getElem?_eq_getElem hj
      generalize x.2.2[j] = e at hee
      have huu := en_at (w := .d e.d) (by rw [esD,List.getElem?_map,List.getElem?_map,hee] <;> rfl) hu
      subst huu
      refine ⟨[u0,u1,some (.ref O.length),u3,some w,some (.d wr),some (.d (.int y)),some (.d (.int (i : Int))),some (.d (.int (j : Int))),some (.d e.d)],rfl, ?_⟩
      unfold b18I
      refine sA_asg (u := .d (.int (y + 1))) (T' := T3) (E_bin (E_v rfl) (E_c _) rfl) (by sizeOf_list_dec) ?_
      have hq := eq_xe O T3 e (stX 0 m)
      rw [hwr] at hq
      refine sA_ite (v := decide (y + 1 = 25) || PyData.eqv e.d wr) (T' := T3) (E_or (E_cmp (E_v rfl) (E_c _) (K_eqI _ _)) fun _ => E_cmp (E_v rfl) (E_v rfl) hq) (fun ht => ?_) fun hf => st_nil (st_nil ?_)
      · have hbd : 24 < pre c i + j + 1 ∨ edgB (cxSz c) i e = false := by
          rw [Bool.or_eq_true,decide_eq_true_eq] at ht
          rcases ht with ht | ht
          · left; omega
          · right
            have : e.d = wr := (eqv_iff _ _ (noB_xe e) (by rw [← hwr]; exact noB_xe _)).mp ht
            exact st0_no (by rw [this,hwr])
        have hc := hC i j (.ed i x j e hs hx hee hB hp hbd)
        exact st_ret (E_cmp (E_callD (EA_cons (E_v rfl) EA_nil) rfl hc) (E_tup (EA_cons (E_v rfl) (EA_cons (E_v rfl) EA_nil)) (by exact AD_cons (AD_cons AD_nil)) (by decide)) (K_pair _ _ _ _)) rfl
      · rw [Bool.or_eq_false_iff,decide_eq_false_iff_not] at hf
        have q2 : edgB (cxSz c) i e = true := by
          rcases hF i x hx e (List.mem_of_getElem? hee) with h | h
          · exact h
          · have : PyData.eqv e.d wr = true := (eqv_iff _ _ (noB_xe e) (by rw [← hwr]; exact noB_xe _)).mpr (by rw [h,hwr])
            rw [this] at hf
            exact absurd hf.2 (by decide)
        refine ⟨rfl,fun i' x' j' e' hx' he' hlt => ?_,by omega,_,_,y + 1,by omega,rfl⟩
        rcases Nat.lt_or_ge i' i with k | k
        · exact hB i' x' j' e' hx' he' (.inl k)
        · have : i' = i := by omega
          subst this
          cases hx.symm.trans hx'
          rcases Nat.lt_or_ge j' j with k' | k'
          · exact hB i' x j' e' hx he' (.inr ⟨rfl,k'⟩)
          · have : j' = j := by omega
            subst this
            cases hee.symm.trans he'
            exact q2
    · rintro ρ T3 ⟨rfl,hB,hp,a8,a9,y,hy,rfl⟩
      have hlj : (((esD x).map U.d).zipIdx.map fun p => mkT [.d (.int (p.2 : Nat)),p.1]).length = x.2.2.length := by simp [esD]
      simp only [hlj] at hB hp hy
      have hps := pre_S hx
      refine st_nil ⟨rfl,fun i' x' j' e' hx' he' hlt => ?_,by omega,_,_,_,_,y,by omega,rfl⟩
      rcases Nat.lt_or_ge i' i with k | k
      · exact hB i' x' j' e' hx' he' (.inl k)
      · have : i' = i := by omega
        subst this
        cases hx.symm.trans hx'
        exact hB i' x j' e' hx he' (.inr ⟨rfl,(List.getElem?_eq_some_iff.mp he').1⟩)
  · rintro ρ T2 ⟨rfl,hB,hp,a4,a7,a8,a9,v,hv,rfl⟩
    simp only [hlz,hul] at hB hp
    have hm : pre c c.length = manyX c := by
      unfold pre manyX
      rw [List.take_length]
    have := F.many
    omega
end Lk21
namespace Lk21
open PySem Y Y.S
def b18F : CB := (.cons (.asg (.nm 3) (.bin false .sub (.v 3) (.bi false .len (.cons (.ix (.v 4) (.c (.int 2))) .nil)))) .nil)
def zE : CE := .bin false .mul (.tup (.cons (.c (.int 0)) .nil)) (.ix (.ix (.v 0) (.c (.int 0))) (.c (.int 1)))
def b18X : CB := (.cons (.ex (.mt false .insert (.ix (.ix (.v 2) (.c (.int 0))) (.c (.int 2))) (.cons (.call false 9 (.cons (.v 1) (.cons (.c (.int 34)) (.cons (.bin false .add (.bi false .len (.cons (.ix (.ix (.v 2) (.c (.int 0))) (.c (.int 2))) .nil)) (.c (.int 1))) .nil))) []) (.cons (.v 5) .nil)))) .nil)
def b18Y : CB := (.cons (.asg (.nm 7) (.call false 9 (.cons (.v 1) (.cons (.c (.int 36)) (.cons (.bi false .len (.cons (.v 2) .nil)) .nil))) []))
  (.cons (.seti (.v 2) (.v 7) (.tup (.cons (.c (.int 0)) (.cons (.ix (.ix (.v 2) (.v 7)) (.c (.int 1))) (.cons (.ix (.ix (.v 2) (.v 7)) (.c (.int 2))) .nil)))))
  (.cons (.ret (.cmp .eq (.call false 16 (.cons (.v 2) .nil) []) (.tup (.cons (.v 7) (.cons (.neg (.c (.int 1))) .nil)))))
  .nil)))
def b18R : CB := (.cons (.ite (.cmp .eq (.call false 9 (.cons (.v 1) (.cons (.c (.int 33)) (.cons (.c (.int 2)) .nil))) []) (.c (.int 0))) b18X .nil)
 (.cons (.asg (.nm 6) (.c (.int 0)))
 (.cons (.ite (.cmp .eq (.call false 9 (.cons (.v 1) (.cons (.c (.int 35)) (.cons (.c (.int 4)) .nil))) []) (.c (.int 0))) b18Y .nil) b18T)))
theorem b18_eq : b18 = (.cons (.asg (.nm 2) (.call true 17 (.cons (.v 0) .nil) []))
 (.cons (.asg (.nm 3) (.bin false .add (.c (.int 25)) (.call false 9 (.cons (.v 1) (.cons (.c (.int 32)) (.cons (.c (.int 8)) .nil))) [])))
 (.cons (.for_ (.nm 4) (.lst (.v 2)) b18F)
 (.cons (.ex (.mt false .extend (.ix (.ix (.v 2) (.c (.int 0))) (.c (.int 2))) (.cons (.bin false .mul (.lst false (.cons (.tup (.cons (.c (.str "step")) (.cons (.c (.int 0)) (.cons (.c (.int 0)) (.cons (.c (.int 1)) (.cons zE .nil)))))) .nil)) (.v 3)) .nil)))
 (.cons (.asg (.nm 5) (.tup (.cons (.c (.str "step")) (.cons (.c (.int 0)) (.cons (.c (.int 0)) (.cons (.c (.int 0)) (.cons zE .nil)))))))
 b18R))))) := rfl
theorem end18 {nx bk ct : Rho → Cs → Prop} {C : Cn} {O : Cs} {c0 c : CX} {m cell : Int} (g0 : Good c0) (F : Full c0 c m) (hp : PickOk C 9) (hC : ∀ (c : CX) f e,First c f e → callP C O 16 [.ref O.length] (Lay O.length c) = .ok (.d (.tuple [.int f,.int e])) (Lay O.length c)) (u0 u3 a4 a7 a8 a9 : Option U) :
    Wp (denB C O (.cons (.asg (.nm 6) (.c (.int 0))) (.cons (.ite (.cmp .eq (.call false 9 (.cons (.v 1) (.cons (.c (.int 35)) (.cons (.c (.int 4)) .nil))) []) (.c (.int 0))) b18Y .nil) b18T)) [u0,some (.d (.int cell)),some (.ref O.length),u3,a4,some (.d (stX 0 m).d),a9,a7,a8,none] (Lay O.length c)) nx bk ct Yes := by
  have hs : SzOk (cxSz c) := by rw [F.sz]; exact g0.s
  obtain ⟨hl,hz⟩ := (szOk_iff c).mp hs
  obtain ⟨r,r0,r1,er⟩ := hp O (Lay O.length c) cell 35 4 (by decide)
  obtain ⟨f,f0,f1,ef⟩ := hp O (Lay O.length c) cell 36 c.length (by omega)
  refine sA_asg (E_c _) (by sizeOf_list_dec) ?_
  refine sA_ite (v := decide (r = 0)) (T' := Lay O.length c) (E_cmp (E_callD (EA_cons (E_v rfl) (EA_cons (E_c _) (EA_cons (E_c _) EA_nil))) rfl er) (E_c _) (K_eqI _ _)) (fun _ => ?_) fun _ => st_nil (tail18 g0 F (hC c) _ _ _ _ _ _ _)
  obtain ⟨fn,rfl⟩ : ∃ fn : Nat,f = fn := ⟨f.toNat,by omega⟩
  have hfl : fn < c.length := by omega
  have hx : c[fn]? = some c[fn] := List.getElem?_eq_getElem hfl
  generalize c[fn] = x at hx
  have gr := L_row O c
  have hln : biU O false .len [.ref O.length] (Lay O.length c) = .ok (.d (.int c.length)) (Lay O.length c) := by
    have := W_lenRU (l := false) gr
    rwa [rows_len] at this
  have hix := ixU_atU gr (row_at _ c hx)
  unfold b18Y
  refine sA_asg (u := .d (.int fn)) (T' := Lay O.length c) (E_callD (EA_cons (E_v rfl) (EA_cons (E_c _) (EA_cons (E_bi (EA_cons (E_v rfl) EA_nil) hln) EA_nil))) rfl ef) (by sizeOf_list_dec) ?_
  have hse := seti_U (v := .tup [.d (.int 0),.d (.int x.2.1),.ref (O.length + 1 + fn)]) gr (Nat.le_refl _) f0 (by rw [rows_len]; exact f1)
  rw [Nat.sub_self,Int.toNat_natCast] at hse
  rw [Ls_row c (x' := (0,x.2.1,x.2.2)) hx rfl] at hse
  refine sA_seti (E_tupU (us := [.d (.int 0),.d (.int x.2.1),.ref (O.length + 1 + fn)]) (EA_cons (E_c _) (EA_cons (E_ix (E_ix (E_v rfl) (E_v rfl) hix) (E_c _) rfl) (EA_cons (E_ix (E_ix (E_v rfl) (E_v rfl) hix) (E_c _) rfl) EA_nil))) (by simp)) (E_v rfl) (E_v rfl) hse ?_
  have hF : First (c.set fn (0,x.2.1,x.2.2)) fn (-1) := by
    refine .sz fn (0,x.2.1,x.2.2) (by rw [List.length_set]; exact hl) (by rw [List.getElem?_set,if_pos rfl,if_pos hfl]) (fun hh => by have := hh.1; simp only at this; omega) fun j y hj hy => ?_
    rw [List.getElem?_set,if_neg (by omega)] at hy
    exact hz j y hy
  have hc := hC _ _ _ hF
  exact st_ret (E_cmp (E_callD (EA_cons (E_v rfl) EA_nil) rfl hc) (E_tup (EA_cons (E_v rfl) (EA_cons (E_neg (E_c _)) EA_nil)) (by exact AD_cons (AD_cons AD_nil)) (by decide)) (K_pair _ _ _ _)) rfl
theorem too_many_ok (n : Nat) (O T : Cs) (c0 : CX) (cell : Int) (g0 : Good c0) : callP (cn G (n + 5)) O 18 [.d (.list (cxD c0)),.d (.int cell)] T = .ok (.d (.bool true)) T := by
  suffices hg : Gv (Y.run G (n + 5) (O ++ T) 18 [.d (.list (cxD c0)),.d (.int cell)] []) Yes by
    obtain ⟨v,T',er,rfl⟩ := hg.ex
    exact callP_r O T er
  generalize O ++ T = O
  refine run_wp G18 rfl ?_
  obtain ⟨hl,hz⟩ := (szOk_iff c0).mp g0.s
  have hp : PickOk (cn G (n + 4)) 9 := pick_run (G := G) rfl (n + 3)
  have hC : ∀ (c : CX) f e,First c f e → callP (cn G (n + 4)) O 16 [.ref O.length] (Lay O.length c) = .ok (.d (.tuple [.int f,.int e])) (Lay O.length c) := fun c f e hF => refusal_ok n O _ _ c (L_rep O c) hF
  have hcp : (cn G (n + 4)).call O 17 [.d (.list (cxD c0))] [] = .ok (.ref O.length) (Lay O.length c0) := by
    have := copied_ok (n + 3) O [] (.d (.list (cxD c0))) c0 (.inl rfl) hl.1 (by omega)
    simpa using this
  generalize cn G (n + 4) = C at *
  obtain ⟨u0,hu0⟩ : ∃ u0 : U,u0 = .d (.list (cxD c0)) := ⟨_,rfl⟩
  have hl0 : 0 < c0.length := by omega
  have hx : c0[0]? = some c0[0] := List.getElem?_eq_getElem hl0
  generalize c0[0] = x at hx
  have hb := hz 0 x hx
  have hi1 : ∀ T,ixU O u0 (.d (.int 0)) T = some (.d (.tuple [.int x.1,.int x.2.1,.list (x.2.2.map XE.d)])) := fun T => by
    rw [hu0,ixU_L,atI_nat _ _ (by decide) (by simp [cxD]; omega)]
    simp [cxD,hx]
  have hm0 := g0.m
  have hm1 : x.2.2.length ≤ manyX c0 := by
    have := pre_le c0 1
    have h2 : pre c0 1 = pre c0 0 + x.2.2.length := pre_S hx
    omega
  show Wp (denB C O b18 [some (.d (.list (cxD c0))),some (.d (.int cell)),none,none,none,none,none,none,none,none] []) _ _ _ _
  rw [← hu0] at hcp ⊢
  rw [b18_eq]
  refine sA_asg (u := .ref O.length) (T' := Lay O.length c0) (E_callL (EA_cons (E_v rfl) EA_nil) rfl hcp) (by sizeOf_list_dec) ?_
  obtain ⟨p,p0,p1,ep⟩ := hp O (Lay O.length c0) cell 32 8 (by decide)
  refine sA_asg (u := .d (.int (25 + p))) (T' := Lay O.length c0) (E_bin (E_c _) (E_callD (EA_cons (E_v rfl) (EA_cons (E_c _) (EA_cons (E_c _) EA_nil))) rfl ep) rfl) (by sizeOf_list_dec) ?_
  have gr := L_row O c0
  have hit : ∀ i w,(rowsOf (O.length + 1) c0)[i]? = some w → ∃ y,c0[i]? = some y ∧ w = U.tup [.d (.int y.1),.d (.int y.2.1),.ref (O.length + 1 + i)] := fun i w hw => by
    unfold rowsOf at hw
    rw [List.getElem?_mapIdx,Option.map_eq_some_iff] at hw
    obtain ⟨y,hy,rfl⟩ := hw
    exact ⟨y,hy,rfl⟩
  refine st_for ⟨rowsOf (O.length + 1) c0,some O.length,Lay O.length c0⟩ (Lay O.length c0) (fun i ρ T => T = Lay O.length c0 ∧ ∃ (v : Int) (a4 : Option U),v = 25 + p - (pre c0 i : Nat) ∧ ρ = [some u0,some (.d (.int cell)),some (.ref O.length),some (.d (.int v)),a4,none,none,none,none,none]) ?_ ⟨rfl,25 + p,none,by simp [pre],rfl⟩ ?_ ?_ ?_
  · rw [denI_lst,den_v]
    show ((R.ok (U.ref O.length) (Lay O.length c0)).bind _) = _
    rw [R.bind_ok,seqL_ref,gr]
    rfl
  · rintro i ρ T ⟨rfl,_⟩
    exact sameW_refl gr gr (.inr (.inl ⟨_,rfl⟩))
  · rintro i w hw ρ T ⟨rfl,v,a4,hv,rfl⟩
    obtain ⟨y,hy,rfl⟩ := hit i w hw
    have gl := L_lst O c0 hy
    have hle := W_lenR (l := false) gl
    rw [esD,List.length_map] at hle
    refine ⟨[some u0,some (.d (.int cell)),some (.ref O.length),some (.d (.int v)),some (.tup [.d (.int y.1),.d (.int y.2.1),.ref (O.length + 1 + i)]),none,none,none,none,none],rfl, ?_⟩
    unfold b18F
    refine sA_asg (u := .d (.int (v - y.2.2.length))) (T' := Lay O.length c0) (E_bin (E_v rfl) (E_bi (EA_cons (E_ix (E_v rfl) (E_c _) rfl) EA_nil) hle) rfl) (by sizeOf_list_dec) (st_nil ⟨rfl,_,_, ?_,rfl⟩)
    rw [pre_S hy]
    omega
  · rintro ρ T ⟨rfl,v,a4,hv,rfl⟩
    have hpm : pre c0 c0.length = manyX c0 := by
      unfold pre manyX
      rw [List.take_length]
    simp only [rows_len,hpm] at hv
    have hzE : ∀ (T : Cs) (a2 a3 a4 a5 a6 a7 a8 a9 : Option U),den C O [some u0,some (.d (.int cell)),a2,a3,a4,a5,a6,a7,a8,a9] zE T = .ok (.d (tD (List.replicate x.2.1.toNat 0))) T := fun T a2 a3 a4 a5 a6 a7 a8 a9 =>
      E_bin (E_tup (EA_cons (E_c _) EA_nil) (by exact AD_cons AD_nil) (by decide)) (E_ix (E_ix (E_v rfl) (E_c _) (hi1 T)) (E_c _) rfl) (zeros O T false hb.2.2.1 (by have := hb.2.2.2; omega))
    have hix := ixU_atU gr (row_at _ c0 hx)
    rw [Nat.add_zero] at hix
    have gl := L_lst O c0 hx
    rw [Nat.add_zero] at gl
    have hmv := many_l O (Lay O.length c0) (stX 1 x.2.1).d (m := v) (by omega) (by omega)
    have hex := ext_ok (l := false) (ws := List.replicate v.toNat (stX 1 x.2.1).d) gl (by omega) (by rw [esD,List.length_map,List.length_replicate]; omega)
    have hes : esD x ++ List.replicate v.toNat (stX 1 x.2.1).d = (x.2.2 ++ List.replicate v.toNat (stX 1 x.2.1)).map XE.d := by
      rw [List.map_append,List.map_replicate]
      rfl
    have hsu : O.length + 1 - O.length = 1 + 0 := by omega
    rw [hes,hsu,Ls_lst c0 hx] at hex
    refine st_ex (E_mt (E_ix (E_ix (E_v rfl) (E_c _) hix) (E_c _) rfl) (TY_ref gl rfl) (EA_cons (E_bin (E_lst (EA_cons (E_tup (EA_cons (E_c _) (EA_cons (E_c _) (EA_cons (E_c _) (EA_cons (E_c _) (EA_cons (hzE _ _ _ _ _ _ _ _ _) EA_nil))))) (by exact AD_cons (AD_cons (AD_cons (AD_cons (AD_cons AD_nil))))) (by decide)) EA_nil) (by exact AD_cons AD_nil) (by decide)) (E_v rfl) hmv) EA_nil) hex) ?_
    have hs1 : cxSz (c0.set 0 (x.1,x.2.1,x.2.2 ++ List.replicate v.toNat (stX 1 x.2.1))) = cxSz c0 := sz_set hx rfl rfl
    have hsz0 : (cxSz c0)[0]? = some (x.1,x.2.1) := by
      unfold cxSz
      rw [List.getElem?_map,hx]
      rfl
    have hsm := sum_set (x' := (x.1,x.2.1,x.2.2 ++ List.replicate v.toNat (stX 1 x.2.1))) hx
    simp only [List.length_append,List.length_replicate] at hsm
    have F : Full c0 (c0.set 0 (x.1,x.2.1,x.2.2 ++ List.replicate v.toNat (stX 1 x.2.1))) x.2.1 := by
      refine ⟨hs1,fun i y hy e he => ?_,by omega,by omega⟩
      left
      rw [List.getElem?_set] at hy
      by_cases hi : 0 = i
      · subst hi
        rw [if_pos rfl,if_pos hl0] at hy
        cases hy
        rcases List.mem_append.mp he with he | he
        · exact g0.e 0 x hx e he
        · rw [(List.mem_replicate.mp he).2]
          exact st1_yes g0.s hsz0
      · rw [if_neg hi] at hy
        exact g0.e i y hy e he
    have hx1 : (c0.set 0 (x.1,x.2.1,x.2.2 ++ List.replicate v.toNat (stX 1 x.2.1)))[0]? = some (x.1,x.2.1,x.2.2 ++ List.replicate v.toNat (stX 1 x.2.1)) := by
      rw [List.getElem?_set,if_pos rfl,if_pos hl0]
    have hl1 : 0 < (c0.set 0 (x.1,x.2.1,x.2.2 ++ List.replicate v.toNat (stX 1 x.2.1))).length := by rw [List.length_set]; exact hl0
    generalize c0.set 0 (x.1,x.2.1,x.2.2 ++ List.replicate v.toNat (stX 1 x.2.1)) = c1 at *
    generalize x.2.2 ++ List.replicate v.toNat (stX 1 x.2.1) = es1 at *
    refine sA_asg (u := .d (stX 0 x.2.1).d) (T' := Lay O.length c1) (E_tup (EA_cons (E_c _) (EA_cons (E_c _) (EA_cons (E_c _) (EA_cons (E_c _) (EA_cons (hzE _ _ _ _ _ _ _ _ _) EA_nil))))) (by exact AD_cons (AD_cons (AD_cons (AD_cons (AD_cons AD_nil))))) (by decide)) (by sizeOf_list_dec) ?_
    unfold b18R
    obtain ⟨r,r0,r1,er⟩ := hp O (Lay O.length c1) cell 33 2 (by decide)
    refine sA_ite (v := decide (r = 0)) (T' := Lay O.length c1) (E_cmp (E_callD (EA_cons (E_v rfl) (EA_cons (E_c _) (EA_cons (E_c _) EA_nil))) rfl er) (E_c _) (K_eqI _ _)) (fun _ => ?_) fun _ => st_nil (end18 g0 F hp hC _ _ _ _ _ _)
    have gr1 := L_row O c1
    have hix1 := ixU_atU gr1 (row_at _ c1 hx1)
    rw [Nat.add_zero] at hix1
    have gl1 := L_lst O c1 hx1
    rw [Nat.add_zero] at gl1
    have hle := W_lenR (l := false) gl1
    rw [esD,List.length_map] at hle
    simp only at hle
    have hel : es1.length ≤ manyX c1 := by
      have := pre_le c1 1
      have h2 : pre c1 1 = pre c1 0 + es1.length := pre_S hx1
      omega
    have hle1 := F.le
    obtain ⟨k,k0,k1,ek⟩ := hp O (Lay O.length c1) cell 34 (es1.length + 1) (by omega)
    have hin := ins_ok (l := false) (x := (stX 0 x.2.1).d) (i := k) gl1 (by omega) k0 (by omega) (by rw [esD,List.length_map]; simp only; omega)
    have hes1 : (esD (x.1,x.2.1,es1)).take k.toNat ++ [(stX 0 x.2.1).d] ++ (esD (x.1,x.2.1,es1)).drop k.toNat = (es1.take k.toNat ++ [stX 0 x.2.1] ++ es1.drop k.toNat).map XE.d := by
      simp [esD]
    rw [hes1,hsu,Ls_lst c1 hx1] at hin
    unfold b18X
    refine st_ex (E_mt (E_ix (E_ix (E_v rfl) (E_c _) hix1) (E_c _) rfl) (TY_ref gl1 rfl) (EA_cons (E_callD (EA_cons (E_v rfl) (EA_cons (E_c _) (EA_cons (E_bin (E_bi (EA_cons (E_ix (E_ix (E_v rfl) (E_c _) hix1) (E_c _) rfl) EA_nil) hle) (E_c _) rfl) EA_nil))) rfl ek) (EA_cons (E_v rfl) EA_nil)) hin) (st_nil ?_)
    have hsm1 := sum_set (x' := (x.1,x.2.1,es1.take k.toNat ++ [stX 0 x.2.1] ++ es1.drop k.toNat)) hx1
    have hml : (es1.take k.toNat ++ [stX 0 x.2.1] ++ es1.drop k.toNat).length = es1.length + 1 := by
      simp only [List.length_append,List.length_take,List.length_drop,List.length_singleton]
      omega
    simp only [hml] at hsm1
    have F2 : Full c0 (c1.set 0 (x.1,x.2.1,es1.take k.toNat ++ [stX 0 x.2.1] ++ es1.drop k.toNat)) x.2.1 := by
      refine ⟨(sz_set (x' := (x.1,x.2.1,es1.take k.toNat ++ [stX 0 x.2.1] ++ es1.drop k.toNat)) hx1 rfl rfl).trans F.sz,fun i y hy e he => ?_,by have := F.many; omega,by omega⟩
      rw [List.getElem?_set] at hy
      by_cases hi : 0 = i
      · subst hi
        rw [if_pos rfl,if_pos hl1] at hy
        cases hy
        rcases List.mem_append.mp he with he | he
        · rcases List.mem_append.mp he with he | he
          · exact F.ed 0 _ hx1 e (List.mem_of_mem_take he)
          · exact .inr (List.mem_singleton.mp he)
        · exact F.ed 0 _ hx1 e (List.mem_of_mem_drop he)
      · rw [if_neg hi] at hy
        exact F.ed i y hy e he
    exact end18 g0 F2 hp hC _ _ _ _ _ _
end Lk21
namespace Lk21
open PySem Y Y.S
theorem Sp.sizes {c0 c : CX} {ps : List (Int × Int)} (h : Sp c0 c ps) (g0 : Good c0) {i : Nat} {x : Int × Int × List XE} (hx : c[i]? = some x) (hn : ((i : Int),(-1 : Int)) ∉ ps) : szB x ∧ ∃ x0,c0[i]? = some x0 ∧ x.1 = x0.1 ∧ x.2.1 = x0.2.1 := by
  have hlt := (List.getElem?_eq_some_iff.mp hx).1
  have hl := h.len
  have hx0 : c0[i]? = some (c0[i]'(by omega)) := List.getElem?_eq_getElem _
  generalize c0[i]'(by omega) = x0 at hx0
  obtain ⟨_,q,_,_⟩ := h.sz i x x0 hx hx0
  have hb := ((szOk_iff c0).mp g0.s).2 i x0 hx0
  obtain ⟨e1,e2⟩ := q hn
  refine ⟨?_,x0,hx0,e1,e2⟩
  unfold szB at *
  rw [e1,e2]
  exact hb
theorem due_sz {c0 c : CX} {ps : List (Int × Int)} (h : Sp c0 c ps) (g0 : Good c0) (f : Int) (hm : (f,(-1 : Int)) ∈ ps) (hmin : ∀ g : Int,(g,(-1 : Int)) ∈ ps → f ≤ g) : First c f (-1) := by
  obtain ⟨i,x,hx,hi,_⟩ := h.mem _ hm
  simp only at hi
  subst hi
  have hlt := (List.getElem?_eq_some_iff.mp hx).1
  have hl := h.len
  have hx0 : c0[i]? = some (c0[i]'(by omega)) := List.getElem?_eq_getElem _
  have hb := (h.sz i x _ hx hx0).2.2.1 hm
  refine .sz i x (by rw [hl]; exact ((szOk_iff c0).mp g0.s).1) hx hb fun j y hj hy => (h.sizes g0 hy fun hmj => ?_).1
  have := hmin j hmj
  omega
theorem due_ed {c0 c : CX} {ps : List (Int × Int)} (h : Sp c0 c ps) (g0 : Good c0) (hno : ∀ g : Int,(g,(-1 : Int)) ∉ ps) (p : Int × Int) (hp : p ∈ ps) (hmin : ∀ q ∈ ps,p.1 < q.1 ∨ p.1 = q.1 ∧ p.2 ≤ q.2) : First c p.1 p.2 := by
  obtain ⟨i,x,hx,hi,hj⟩ := h.mem p hp
  obtain ⟨p1,p2⟩ := p
  simp only at hi hj hmin ⊢
  subst hi
  rcases hj with rfl | ⟨j,hj,rfl⟩
  · exact absurd hp (hno _)
  have hlt := (List.getElem?_eq_some_iff.mp hx).1
  have hl := h.len
  have hlen0 := ((szOk_iff c0).mp g0.s).1
  have hs : SzOk (cxSz c) := (szOk_iff c).mpr ⟨by rw [hl]; exact hlen0,fun k y hy => (h.sizes g0 hy (hno _)).1⟩
  have hsz : cxSz c = cxSz c0 := by
    unfold cxSz
    apply List.ext_getElem?
    intro k
    rw [List.getElem?_map,List.getElem?_map]
    cases hk : c[k]? with
    | none =>
      have : c0[k]? = none := by
        rw [List.getElem?_eq_none_iff] at hk ⊢
        omega
      rw [this]
    | some y =>
      obtain ⟨_,y0,hy0,e1,e2⟩ := h.sizes g0 hk (hno _)
      rw [hy0]
      simp [e1,e2]
  have hmany : manyX c = manyX c0 := by
    unfold manyX
    congr 1
    apply List.ext_getElem?
    intro k
    rw [List.getElem?_map,List.getElem?_map]
    cases hk : c[k]? with
    | none =>
      have : c0[k]? = none := by
        rw [List.getElem?_eq_none_iff] at hk ⊢
        omega
      rw [this]
    | some y =>
      obtain ⟨_,y0,hy0,_⟩ := h.sizes g0 hk (hno _)
      rw [hy0]
      simp [(h.sz k y y0 hk hy0).1]
  have hxe : x.2.2[j]? = some x.2.2[j] := List.getElem?_eq_getElem hj
  generalize x.2.2[j] = e at hxe
  have key : ∀ (i' : Nat) x' (j' : Nat) e',c[i']? = some x' → x'.2.2[j']? = some e' → ∃ x0 e0,c0[i']? = some x0 ∧ e0 ∈ x0.2.2 ∧ ((((i' : Int),(j' : Int)) ∉ ps → e' = e0) ∧ (((i' : Int),(j' : Int)) ∈ ps → edgB (cxSz c0) i' e' = false)) := fun i' x' j' e' hx' he' => by
    obtain ⟨_,x0,hx0,_⟩ := h.sizes g0 hx' (hno _)
    obtain ⟨q1,_,_,q4⟩ := h.sz i' x' x0 hx' hx0
    have hj' := (List.getElem?_eq_some_iff.mp he').1
    have he0 : x0.2.2[j']? = some (x0.2.2[j']'(by omega)) := List.getElem?_eq_getElem _
    exact ⟨x0,_,hx0,List.mem_of_getElem? he0,q4 j' e' _ he' he0⟩
  refine .ed i x j e hs hx hxe (fun i' x' j' e' hx' he' hlt' => ?_) ?_ (.inr ?_)
  · obtain ⟨x0,e0,hx0,hm0,q,_⟩ := key i' x' j' e' hx' he'
    rw [hsz,q fun hm => ?_]
    · exact g0.e i' x0 hx0 e0 hm0
    · have := hmin _ hm
      simp only at this
      omega
  · have h1 := pre_S hx
    have h2 := pre_le c (i + 1)
    have := g0.m
    omega
  · obtain ⟨x0,e0,hx0,hm0,_,q⟩ := key i x j e hx hxe
    rw [hsz]
    exact q hp
theorem minP_mem (p : Int × Int) (ps : List (Int × Int)) : minP p ps ∈ p :: ps ∧ ∀ q ∈ p :: ps,(minP p ps).1 < q.1 ∨ (minP p ps).1 = q.1 ∧ (minP p ps).2 ≤ q.2 := by
  unfold minP
  induction ps generalizing p with
  | nil =>
    refine ⟨by simp,fun q hq => ?_⟩
    rw [List.mem_singleton] at hq
    subst hq
    exact .inr ⟨rfl,Int.le_refl _⟩
  | cons b r ih =>
    rw [List.foldl_cons]
    obtain ⟨h1,h2⟩ := ih (if b.1 < p.1 ∨ b.1 = p.1 ∧ b.2 < p.2 then b else p)
    refine ⟨?_,fun q hq => ?_⟩
    · rcases List.mem_cons.mp h1 with h | h
      · rw [h]; split <;> simp
      · exact List.mem_cons_of_mem _ (List.mem_cons_of_mem _ h)
    · have h0 := h2 _ List.mem_cons_self
      generalize List.foldl (fun a b => if b.1 < a.1 ∨ b.1 = a.1 ∧ b.2 < a.2 then b else a) (if b.1 < p.1 ∨ b.1 = p.1 ∧ b.2 < p.2 then b else p) r = m at *
      rcases List.mem_cons.mp hq with rfl | hq
      · split at h0 <;> omega
      · rcases List.mem_cons.mp hq with rfl | hq
        · split at h0 <;> omega
        · exact h2 q (List.mem_cons_of_mem _ hq)
def szs (ps : List (Int × Int)) : List Int := (ps.filter fun p => decide (p.2 = -1)).map (·.1)
theorem mem_szs (ps : List (Int × Int)) (f : Int) : f ∈ szs ps ↔ (f,(-1 : Int)) ∈ ps := by
  unfold szs
  rw [List.mem_map]
  constructor
  · rintro ⟨p,hp,rfl⟩
    rw [List.mem_filter,decide_eq_true_eq] at hp
    obtain ⟨p1,p2⟩ := p
    obtain ⟨h1,rfl⟩ := hp
    exact h1
  · intro h
    exact ⟨_,List.mem_filter.mpr ⟨h,by simp⟩,rfl⟩
def due (p : Int × Int) (ps : List (Int × Int)) : Int × Int := match szs (p :: ps) with
  | [] => minP p ps
  | f :: fs => (minL f fs,-1)
theorem due_first {c0 c : CX} {p : Int × Int} {ps : List (Int × Int)} (h : Sp c0 c (p :: ps)) (g0 : Good c0) : First c (due p ps).1 (due p ps).2 := by
  unfold due
  cases e : szs (p :: ps) with
  | nil =>
    obtain ⟨h1,h2⟩ := minP_mem p ps
    exact due_ed h g0 (fun g hg => by rw [← mem_szs,e] at hg; cases hg) _ h1 h2
  | cons f fs =>
    obtain ⟨h1,h2⟩ := minL_mem f fs
    refine due_sz h g0 _ ?_ fun g hg => ?_
    · rw [← mem_szs,e]
      exact h1
    · rw [← mem_szs,e] at hg
      exact h2 g hg
def exE : Ed → XE
  | .st p q c t => .st p q c (t.map fun n : Nat => (n : Int))
  | .ca p q c g a b t => .ca p q c g (a.map fun n : Nat => (n : Int)) (b.map fun n : Nat => (n : Int)) (t.map fun n : Nat => (n : Int))
theorem tD_nD (t : List Nat) : tD (t.map fun n : Nat => (n : Int)) = .tuple (nD t) := by
  unfold tD nD
  rw [List.map_map]
  rfl
theorem exE_d (e : Ed) : (exE e).d = e.d := by
  cases e with
  | st p q c t => simp only [exE,XE.d,Ed.d,tD_nD]
  | ca p q c g a b t => simp only [exE,XE.d,Ed.d,tD_nD]
def cx (ch : Ch) : CX := ch.map fun x => (x.1,x.2.1,x.2.2.map exE)
theorem cx_D (ch : Ch) : cxD (cx ch) = chD ch := by
  unfold cxD cx chD
  rw [List.map_map]
  refine List.map_congr_left fun x _ => ?_
  simp only [Function.comp_apply,List.map_map]
  congr 3
  congr 1
  exact congrArg _ (List.map_congr_left fun e _ => exE_d e)
theorem cx_sz (ch : Ch) : cxSz (cx ch) = chSz ch := by
  unfold cxSz cx chSz
  rw [List.map_map]
  rfl
theorem cx_many (ch : Ch) : manyX (cx ch) = manyE ch := by
  unfold manyX cx manyE
  rw [List.map_map]
  congr 1
  refine List.map_congr_left fun x _ => by simp
theorem tab_ok {t : List Nat} {m b : Int} (h : TbIn t m b) (h0 : 0 ≤ m) : tabB (t.map fun n : Nat => (n : Int)) m b = true := by
  unfold tabB
  rw [Bool.and_eq_true,decide_eq_true_eq,List.all_eq_true]
  refine ⟨by rw [List.length_map,h.1]; omega,fun r hr => ?_⟩
  obtain ⟨n,hn,rfl⟩ := List.mem_map.mp hr
  have := h.2 n hn
  have e : ((2 : Int) ^ b.toNat) = ((2 ^ b.toNat : Nat) : Int) := by simp
  rw [decide_eq_true_eq,e]
  omega
theorem ed_ok {s : Sz} (hs : SzOk s) {f : Nat} {e : Ed} (h : EdOk s f e) : edgB s f (exE e) = true := by
  cases e with
  | st p q c t =>
    obtain ⟨P,n,hf,hh,ht⟩ := h
    have hb := sz_b hs hf
    simp only [exE,edgB,hf]
    have hh' : headB P p q c = true := decide_eq_true hh
    rw [tab_ok ht (by omega),hh']
    rfl
  | ca p q c g a b t =>
    obtain ⟨P,n,Q,m,hf,g0,g1,hg,hh,ha,hb',ht⟩ := h
    have hb := sz_b hs hf
    have hb2 := sz_b hs hg
    simp only [exE,edgB,hf,hg]
    have hh' : headB P p q c = true := decide_eq_true hh
    rw [tab_ok ht (by omega),tab_ok ha (by omega),tab_ok hb' (by omega),hh',decide_eq_true ⟨g0,g1⟩]
    rfl
theorem cx_good {ch : Ch} (h : ChOk ch) : Good (cx ch) := by
  refine ⟨by rw [cx_sz]; exact h.1,fun i x hx ed hm => ?_,by rw [cx_many]; exact h.2.2⟩
  unfold cx at hx
  rw [List.getElem?_map,Option.map_eq_some_iff] at hx
  obtain ⟨y,hy,rfl⟩ := hx
  obtain ⟨e,he,rfl⟩ := List.mem_map.mp hm
  rw [cx_sz]
  exact ed_ok h.1 (h.2.1 i y hy e he)
end Lk21
namespace Lk21
open PySem Y Y.S
section
variable {C : Cn} {O T T1 T2 : Cs} {ρ : Rho}
theorem E_andG {a b : CE} {q : Bool} (ha : den C O ρ a T = .ok (.d (.bool true)) T1) (hb : den C O ρ b T1 = .ok (.d (.bool q)) T2) : den C O ρ (.and a b) T = .ok (.d (.bool q)) T2 := by
  rw [den,ha,R.bind_ok]
  exact hb
theorem E_orG {a b : CE} {q : Bool} (ha : den C O ρ a T = .ok (.d (.bool false)) T1) (hb : den C O ρ b T1 = .ok (.d (.bool q)) T2) : den C O ρ (.or a b) T = .ok (.d (.bool q)) T2 := by
  rw [den,ha,R.bind_ok]
  exact hb
theorem V_appU {l : Bool} {r : Nat} {us : List U} {v : U} (hg : getC O T r = some (.lstU us)) (lo : O.length ≤ r) (hl : us.length ≤ 1000000) : mtU O l .append (.ref r) [v] T = .ok (.d .none) (T.set (r - O.length) (.lstU (us ++ [v]))) := by
  show appU O r v T = _
  unfold appU
  rw [hg]
  simp only
  rw [if_pos (by simpa [Y.sizeOk] using hl)]
  unfold setC
  rw [if_pos ⟨lo,own_lt hg⟩]
end
theorem cut1 {α : Type} (a : α) (l : List α) : cut (a :: l) (some 1) none = l := by
  unfold cut
  simp [HT.sIx]
theorem cut7 {α : Type} (l : List α) (h : 7 ≤ l.length) : cut l none (some 7) = l.take 7 := by
  unfold cut
  simp [HT.sIx]
theorem cell_tup {us : List U} {ws : List U} (h : us[0]? = some (.tup ws)) : Y.cellOf us = .lstU us := by
  cases us with
  | nil => cases h
  | cons u r =>
    simp only [List.getElem?_cons_zero,Option.some.injEq] at h
    subst h
    rfl
def RowsR (T : Cs) (c : CX) (rows : List U) : Prop := rows.length = c.length ∧ ∀ (f : Nat) x,c[f]? = some x → ∃ j,rows[f]? = some (U.tup [.d (.int x.1),.d (.int x.2.1),.ref j]) ∧ getC [] T j = some (.lst (esD x))
theorem RowsR.app {T : Cs} {c c' : CX} {r r' : List U} (h : RowsR T c r) (h' : RowsR T c' r') : RowsR T (c ++ c') (r ++ r') := by
  refine ⟨by rw [List.length_append,List.length_append,h.1,h'.1],fun f x hx => ?_⟩
  rcases Nat.lt_or_ge f c.length with hf | hf
  · rw [List.getElem?_append_left hf] at hx
    rw [List.getElem?_append_left (by rw [h.1]; exact hf)]
    exact h.2 f x hx
  · rw [List.getElem?_append_right hf] at hx
    rw [List.getElem?_append_right (by rw [h.1]; exact hf),h.1]
    exact h'.2 _ x hx
theorem RowsR.rep {T : Cs} {c : CX} {r : List U} (h : RowsR T c r) : ∀ n,RowsR T (List.replicate n c).flatten (List.replicate n r).flatten
  | 0 => ⟨rfl,fun f x hx => by simp at hx⟩
  | n + 1 => by
    rw [List.replicate_succ,List.replicate_succ,List.flatten_cons,List.flatten_cons]
    exact h.app (RowsR.rep h n)
theorem RowsR.take {T : Cs} {c : CX} {r : List U} (h : RowsR T c r) (n : Nat) : RowsR T (c.take n) (r.take n) := by
  refine ⟨by rw [List.length_take,List.length_take,h.1],fun f x hx => ?_⟩
  rw [List.getElem?_take] at hx ⊢
  split at hx
  · rename_i hf
    rw [if_pos hf]
    exact h.2 f x hx
  · cases hx
theorem len_rep {α : Type} (l : List α) (n : Nat) : (List.replicate n l).flatten.length = n * l.length := by
  induction n with
  | zero => simp
  | succ n ih =>
    rw [List.replicate_succ,List.flatten_cons,List.length_append,ih,Nat.succ_mul]
    omega
theorem noB_cx (c : CX) : noB (.list (cxD c)) = true := by
  show noBs (cxD c) = true
  refine noBs_map _ (fun x => ?_) c
  show noBs [.int x.1,.int x.2.1,.list (x.2.2.map XE.d)] = true
  have : noBs (x.2.2.map XE.d) = true := noBs_map _ noB_xe _
  simp [noBs,noB,this]
theorem cmp_cx {O T : Cs} {u : U} {c : CX} (h : ChRep O T u c) : cmpU O .eq u (.d (.list (cxD c))) T = some true ∧ cmpU O .ne u (.d (.list (cxD c))) T = some false :=
  cmp_same h.toD (toD_d ..) ((lay_cx c).shp (by decide)) (noB_cx c)
theorem ne_pair (O T : Cs) (i j : Int) : cmpU O .ne (.d (.tuple [.int i,.int j])) (.d (.tuple [.int i,.int j])) T = some false := by
  refine (cmp_same (d := .tuple [.int i,.int j]) (toD_d ..) (toD_d ..) rfl ?_).2
  simp [noB,noBs]
theorem mul7 {T : Cs} {rows : List U} {c : CX} (hg : getC [] T 0 = some (.lstU rows)) (hr : RowsR T c rows) (h1 : 1 ≤ c.length) (h6 : c.length ≤ 6) : ∃ us,binU [] true .mul (.ref 0) (.d (.int 7)) T = .ok (.ref T.length) (T ++ [.lstU us]) ∧ us = (List.replicate 7 rows).flatten := by
  refine ⟨_, ?_,rfl⟩
  have hlen := len_rep rows 7
  have hs : Y.sizeOk (rows.length * (7 : Int).toNat) = true := by
    have := hr.1
    simp [Y.sizeOk]
    omega
  show (match seqL [] T (.ref 0) with
    | some us => if decide ((0 : Int) ≤ 7) && decide ((7 : Int) ≤ 1000000) && Y.sizeOk (us.length * (7 : Int).toNat) then mkL [] true (List.replicate (7 : Int).toNat us).flatten T else .fail
    | none => match seqT (.ref 0) with
      | some us => if !us.isEmpty && decide ((1 : Int) ≤ 7) && decide ((7 : Int) ≤ 1000) && decide (us.length ≤ 1000) then .ok (mkT (List.replicate (7 : Int).toNat us).flatten) T else .fail
      | none => .fail) = _
  rw [seqL_ref,hg]
  simp only
  rw [hs]
  show mkL [] true (List.replicate 7 rows).flatten T = _
  have hx : c[0]? = some (c[0]'(by omega)) := List.getElem?_eq_getElem _
  obtain ⟨j,hj,_⟩ := (hr.rep 7).2 0 _ (by rw [List.replicate_succ,List.flatten_cons,List.getElem?_append_left (by omega)]; exact hx)
  show R.ok (U.ref (([] : Cs).length + T.length)) (T ++ [Y.cellOf (List.replicate 7 rows).flatten]) = _
  rw [cell_tup hj,List.length_nil,Nat.zero_add]
theorem slc7 {T : Cs} {us : List U} {c : CX} {k : Nat} (hg : getC [] T k = some (.lstU us)) (hr : RowsR T c us) (h7 : 7 ≤ c.length) : slcU [] true (.ref k) none (some 7) T = .ok (.ref T.length) (T ++ [.lstU (us.take 7)]) := by
  unfold slcU
  rw [seqL_ref,hg]
  simp only
  rw [cut7 us (by rw [hr.1]; exact h7)]
  have hx : c[0]? = some (c[0]'(by omega)) := List.getElem?_eq_getElem _
  obtain ⟨j,hj,_⟩ := (hr.take 7).2 0 _ (by rw [List.getElem?_take,if_pos (by decide)]; exact hx)
  show R.ok (U.ref (([] : Cs).length + T.length)) (T ++ [Y.cellOf (us.take 7)]) = _
  rw [cell_tup hj,List.length_nil,Nat.zero_add]
theorem pairsI_map : ∀ ps : List (Int × Int),pairsI (ps.map pairD) = some ps
  | [] => rfl
  | p :: r => by
    show (pairsI (r.map pairD)).map ((p.1,p.2) :: ·) = _
    rw [pairsI_map r]
    rfl
theorem intsOf_map : ∀ ns : List Int,intsOf (ns.map .int) = some ns
  | [] => rfl
  | n :: r => by
    show (intsOf (r.map .int)).map (n :: ·) = _
    rw [intsOf_map r]
    rfl
theorem min1P_ok (O T : Cs) (l : Bool) (p : Int × Int) (ps : List (Int × Int)) : biU O l .min1P [.d (.list ((p :: ps).map pairD))] T = .ok (.d (pairD (minP p ps))) T := by
  show min1PB O T (.d (.list ((p :: ps).map pairD))) = _
  unfold min1PB
  have : (listD O T (.d (.list ((p :: ps).map pairD)))).bind pairsI = some (p :: ps) := pairsI_map (p :: ps)
  rw [this]
theorem min1_ok (O T : Cs) (l : Bool) (n : Int) (ns : List Int) : biU O l .min1 [.d (.list ((n :: ns).map .int))] T = .ok (.d (.int (minL n ns))) T := by
  show min1B O T (.d (.list ((n :: ns).map .int))) = _
  unfold min1B
  have : (listD O T (.d (.list ((n :: ns).map .int)))).bind intsOf = some (n :: ns) := intsOf_map (n :: ns)
  rw [this]
def szF : U → Option U
  | .d (.tuple [.int a,.int b]) => if b = -1 then some (.d (.int a)) else none
  | _ => none
theorem szF_map : ∀ ps : List (Int × Int),((ps.map pairD).map U.d).filterMap szF = ((szs ps).map PyData.int).map U.d
  | [] => rfl
  | p :: r => by
    rw [List.map_cons,List.map_cons,List.filterMap_cons]
    have e : szF (.d (pairD p)) = if p.2 = -1 then some (.d (.int p.1)) else none := rfl
    rw [e]
    by_cases h : p.2 = -1
    · rw [if_pos h]
      simp only
      rw [szF_map r]
      unfold szs
      rw [List.filter_cons_of_pos (by simp [h])]
      rfl
    · rw [if_neg h]
      simp only
      rw [szF_map r]
      unfold szs
      rw [List.filter_cons_of_neg (by simp [h])]
theorem W_rep (A : Cs) (sp : List D) (c : CX) : ChRep [] (Wc A sp c) (.ref (A.length + 1)) c := by
  have := lay_rep [] (A ++ [.lst sp]) [] c
  simpa [Wc] using this
theorem W_ext (A : Cs) (sp : List D) (c c' : CX) {u : U} (h : ChRep [] A u c') : ChRep [] (Wc A sp c) u c' := h.mono (ext_app _ _ _)
def b19d : CB := (.cons (.asg (.nm 9) (.comp false (.v 11) (.tp (.cons (.nm 11) (.cons (.nm 12) .nil))) (.lst (.slc false (.v 7) (.c (.int 1)) .skip)) (.cmp .eq (.v 12) (.neg (.c (.int 1)))) [11,12]))
 (.cons (.asg (.nm 10) (.bi false .min1P (.cons (.slc false (.v 7) (.c (.int 1)) .skip) .nil)))
 (.cons (.ite (.cmp .ne (.v 9) (.lst false .nil)) (.cons (.asg (.nm 10) (.tup (.cons (.bi false .min1 (.cons (.v 9) .nil)) (.cons (.neg (.c (.int 1))) .nil))))
  .nil) .nil)
 (.cons (.ret (.and (.cmp .eq (.call false 16 (.cons (.v 8) .nil) []) (.v 10)) (.cmp .eq (.call true 7 (.cons (.v 3) .nil) []) (.v 2))))
 .nil))))
structure Cl (C : Cn) (c0 : CX) : Prop where
  copy : ∀ (T : Cs) u c,ChRep [] T u c → 1 ≤ c.length → c.length ≤ 1000 → C.call [] 17 [u] T = .ok (.ref T.length) (T ++ Lay T.length c)
  chk : ∀ (T : Cs) u c,ChRep [] T u c → Good c → C.call [] 7 [u] T = .ok (.ref T.length) (T ++ Lay T.length c)
  ref : ∀ (T : Cs) u c f e,ChRep [] T u c → First c f e → callP C [] 16 [u] T = .ok (.d (.tuple [.int f,.int e])) T
  too : ∀ (T : Cs) (cell : Int),callP C [] 18 [.d (.list (cxD c0)),.d (.int cell)] T = .ok (.d (.bool true)) T
  wr : ∀ (A : Cs) (c : CX) (ps : List (Int × Int)) (cell : Int),Sp c0 c ps → ps.length ≤ 10 → ∃ c' ps',C.call [] 15 [.ref (A.length + 1),.d (.int cell),.ref A.length] (Wc A (.list (cxD c0) :: ps.map pairD) c) = .ok (.d .none) (Wc A (.list (cxD c0) :: ps'.map pairD) c') ∧ Sp c0 c' ps' ∧ ps' ≠ [] ∧ ps'.length ≤ ps.length + 1
  pick : PickOk C 9
theorem last19 {C : Cn} {c0 : CX} (hC : Cl C c0) (g0 : Good c0) (A : Cs) (c : CX) (p : Int × Int) (ps : List (Int × Int)) (hA : ChRep [] A (.ref 0) c0) (h : Sp c0 c (p :: ps)) (hl : ps.length ≤ 10) (x0 x1 x4 x5 x6 : Option U) {nx bk ct : Rho → Cs → Prop} :
    Wp (denB C [] b19d [x0,x1,some (.d (.list (cxD c0))),some (.ref 0),x4,x5,x6,some (.ref A.length),some (.ref (A.length + 1)),none,none,none,none] (Wc A (.list (cxD c0) :: (p :: ps).map pairD) c)) nx bk ct Yes := by
  have gs := W_sp A (.list (cxD c0) :: (p :: ps).map pairD) c
  have hR := W_rep A (.list (cxD c0) :: (p :: ps).map pairD) c
  have hH := W_ext A (.list (cxD c0) :: (p :: ps).map pairD) c c0 hA
  have hF := due_first h g0
  have e16 := hC.ref _ _ _ _ _ hR hF
  have e7 := hC.chk _ _ _ hH g0
  have hcm : cmpU [] .eq (.ref (Wc A (.list (cxD c0) :: (p :: ps).map pairD) c).length) (.d (.list (cxD c0))) (Wc A (.list (cxD c0) :: (p :: ps).map pairD) c ++ Lay (Wc A (.list (cxD c0) :: (p :: ps).map pairD) c).length c0) = some true := by
    have := lay_rep [] (Wc A (.list (cxD c0) :: (p :: ps).map pairD) c) [] c0
    simp only [List.length_nil,Nat.zero_add,List.append_nil] at this
    exact (cmp_cx this).1
  have hsl : slcU [] false (.ref A.length) (some 1) none (Wc A (.list (cxD c0) :: (p :: ps).map pairD) c) = .ok (.d (.list ((p :: ps).map pairD))) (Wc A (.list (cxD c0) :: (p :: ps).map pairD) c) := by
    unfold slcU
    rw [seqL_ref,gs]
    simp only
    rw [List.map_cons,cut1,mkL_map]
  generalize Wc A (.list (cxD c0) :: (p :: ps).map pairD) c = T at *
  clear hR hH gs
  unfold b19d
  obtain ⟨L,hL⟩ : ∃ L : D,L = .list (cxD c0) := ⟨_,rfl⟩
  rw [← hL] at hcm ⊢
  have hcomp : ∀ (a9 a10 a11 a12 : Option U),den C [] [x0,x1,some (.d L),some (.ref 0),x4,x5,x6,some (.ref A.length),some (.ref (A.length + 1)),a9,a10,a11,a12] (.comp false (.v 11) (.tp (.cons (.nm 11) (.cons (.nm 12) .nil))) (.lst (.slc false (.v 7) (.c (.int 1)) .skip)) (.cmp .eq (.v 12) (.neg (.c (.int 1)))) [11,12]) T = .ok (.d (.list ((szs (p :: ps)).map .int))) T := by
    intro a9 a10 a11 a12
    refine comp_d (us := ((p :: ps).map pairD).map U.d) (w := none) (tt := T) szF ?_ (fun acc => rfl) (fun u hu acc => ?_) (by simp; omega) (szF_map _)
    · rw [denI_lst,E_slcL rfl (E_v rfl) (E_c _) hsl,R.bind_ok,seqL_d]
      rfl
    · obtain ⟨d,hd,rfl⟩ := List.mem_map.mp hu
      obtain ⟨q,_,rfl⟩ := List.mem_map.mp hd
      refine ⟨[x0,x1,some (.d L),some (.ref 0),x4,x5,x6,some (.ref A.length),some (.ref (A.length + 1)),a9,a10,some (.d (.int q.1)),some (.d (.int q.2))],rfl, ?_⟩
      have e : szF (.d (pairD q)) = if q.2 = -1 then some (.d (.int q.1)) else none := rfl
      rw [e]
      by_cases hq : q.2 = -1
      · rw [if_pos hq]
        refine ⟨?_,E_v rfl⟩
        have := E_cmp (C := C) (O := []) (ρ := [x0,x1,some (.d L),some (.ref 0),x4,x5,x6,some (.ref A.length),some (.ref (A.length + 1)),a9,a10,some (.d (.int q.1)),some (.d (.int q.2))]) (T := T ++ [.lstU acc]) (o := .eq) (a := .v 12) (b := .neg (.c (.int 1))) (E_v rfl) (E_neg (E_c _)) (K_eqI _ _)
        rw [this,decide_eq_true hq]
      · rw [if_neg hq]
        have := E_cmp (C := C) (O := []) (ρ := [x0,x1,some (.d L),some (.ref 0),x4,x5,x6,some (.ref A.length),some (.ref (A.length + 1)),a9,a10,some (.d (.int q.1)),some (.d (.int q.2))]) (T := T ++ [.lstU acc]) (o := .eq) (a := .v 12) (b := .neg (.c (.int 1))) (E_v rfl) (E_neg (E_c _)) (K_eqI _ _)
        show den C [] _ (.cmp .eq (.v 12) (.neg (.c (.int 1)))) _ = _
        rw [this,decide_eq_false hq]
  refine sA_asg (hcomp _ _ _ _) (by sizeOf_list_dec) ?_
  refine sA_asg (u := .d (pairD (minP p ps))) (T' := T) (E_bi (EA_cons (E_slcL rfl (E_v rfl) (E_c _) hsl) EA_nil) (min1P_ok _ _ _ p ps)) (by sizeOf_list_dec) ?_
  have hln := list_ne (O := []) (T := T) ((szs (p :: ps)).map .int) ((lay_list (k := 0) fun y hy => by
    obtain ⟨n,_,rfl⟩ := List.mem_map.mp hy
    exact lay_int _).shp (by decide))
  have fin : ∀ v9 : Option U,Wp (denB C [] (.cons (.ret (.and (.cmp .eq (.call false 16 (.cons (.v 8) .nil) []) (.v 10)) (.cmp .eq (.call true 7 (.cons (.v 3) .nil) []) (.v 2)))) .nil) [x0,x1,some (.d L),some (.ref 0),x4,x5,x6,some (.ref A.length),some (.ref (A.length + 1)),v9,some (.d (.tuple [.int (due p ps).1,.int (due p ps).2])),none,none] T) nx bk ct Yes := fun v9 =>
    st_ret (E_andG (E_cmp (E_callD (EA_cons (E_v rfl) EA_nil) rfl e16) (E_v rfl) (K_pair _ _ _ _)) (E_cmp (E_callL (EA_cons (E_v rfl) EA_nil) rfl e7) (E_v rfl) hcm)) rfl
  cases e : szs (p :: ps) with
  | nil =>
    rw [e] at hln
    have hd : due p ps = minP p ps := by unfold due; rw [e]
    rw [hd] at fin
    exact sA_iteF (v := false) (T' := T) (E_cmp (E_v rfl) (E_lst EA_nil (by exact AD_nil) (by decide)) hln) rfl (st_nil (fin _))
  | cons f fs =>
    rw [e] at hln
    have hd : due p ps = (minL f fs,-1) := by unfold due; rw [e]
    rw [hd] at fin
    refine sA_iteT (v := true) (T' := T) (E_cmp (E_v rfl) (E_lst EA_nil (by exact AD_nil) (by decide)) hln) rfl ?_
    exact sA_asg (u := .d (.tuple [.int (minL f fs),.int (-1)])) (T' := T) (E_tup (EA_cons (E_bi (EA_cons (E_v rfl) EA_nil) (min1_ok _ _ _ f fs)) (EA_cons (E_neg (E_c _)) EA_nil)) (by exact AD_cons (AD_cons AD_nil)) (by decide)) (by sizeOf_list_dec) (st_nil (fin _))
end Lk21
namespace Lk21
open PySem Y Y.S
def b19c : CB := (.cons (.asg (.nm 7) (.lst true (.cons (.v 2) .nil)))
 (.cons (.asg (.nm 8) (.call true 17 (.cons (.v 2) .nil) []))
 (.cons (.ex (.call true 15 (.cons (.v 8) (.cons (.v 6) (.cons (.v 7) .nil))) []))
 (.cons (.ite (.cmp .eq (.call false 9 (.cons (.v 6) (.cons (.c (.int 2)) (.cons (.c (.int 3)) .nil))) []) (.c (.int 0))) (.cons (.ex (.call true 15 (.cons (.v 8) (.cons (.call false 8 (.cons (.v 0) (.cons (.c (.int 2)) .nil)) []) (.cons (.v 7) .nil))) []))
  .nil) .nil)
 b19d))))
def b19b : CB := (.cons (.asg (.nm 6) (.call false 8 (.cons (.v 0) (.cons (.c (.int 1)) .nil)) []))
 (.cons (.ite (.or (.cmp .ne (.v 3) (.v 2)) (.or (.cmp .ne (.call false 16 (.cons (.lst false .nil) .nil) []) (.tup (.cons (.neg (.c (.int 1))) (.cons (.neg (.c (.int 1))) .nil)))) (.cmp .ne (.call false 16 (.cons (.slc true (.bin true .mul (.v 3) (.c (.int 7))) .skip (.c (.int 7))) .nil) []) (.tup (.cons (.neg (.c (.int 1))) (.cons (.neg (.c (.int 1))) .nil)))))) (.cons (.ret (.c (.bool false)))
  .nil) .nil)
 (.cons (.ite (.or (.cmp .lt (.bi false .len (.cons (.bin true .mul (.v 3) (.c (.int 7))) .nil)) (.c (.int 7))) (.cmp .eq (.call false 9 (.cons (.v 6) (.cons (.c (.int 1)) (.cons (.c (.int 3)) .nil))) []) (.c (.int 0)))) (.cons (.ret (.c (.bool true)))
  .nil) .nil)
 (.cons (.ite (.not (.call false 18 (.cons (.v 2) (.cons (.v 6) .nil)) [])) (.cons (.ret (.c (.bool false)))
  .nil) .nil)
 b19c))))
def b19L : CB := (.cons (.ex (.mt false .append (.ix (.v 5) (.c (.int 2))) (.cons (.c (.int 1)) .nil))) .nil)
theorem b19_eq : b19 = (.cons (.asg (.nm 1) (.call false 8 (.cons (.v 0) (.cons (.c (.int 0)) .nil)) []))
 (.cons (.asg (.nm 2) (.call false 12 (.cons (.slc false (.v 0) (.c (.int 3)) .skip) (.cons (.v 1) .nil)) []))
 (.cons (.asg (.nm 3) (.call true 17 (.cons (.v 2) .nil) []))
 (.cons (.asg (.nm 4) (.call true 7 (.cons (.v 3) .nil) []))
 (.cons (.ite (.or (.not (.bi false .islist (.cons (.v 4) .nil))) (.or (.cmp .ne (.v 4) (.v 2)) (.cmp .ne (.v 3) (.v 2)))) (.cons (.ret (.c (.bool false)))
  .nil) .nil)
 (.cons (.for_ (.nm 5) (.lst (.v 4)) b19L)
 (.cons (.ex (.mt false .append (.v 4) (.cons (.c (.int 2)) .nil)))
 b19b))))))) := rfl
def CellF (C : Cn) (ua : U) : Prop := ∀ (k : Int) (T : Cs),0 ≤ k → k ≤ 2 → ∃ w : Int,callP C [] 8 [ua,.d (.int k)] T = .ok (.d (.int w)) T
theorem mid19 {C : Cn} {c0 : CX} {ua : U} (hC : Cl C c0) (hU : CellF C ua) (g0 : Good c0) (A : Cs) (hA : ChRep [] A (.ref 0) c0) (cell : Int) (x1 x4 x5 : Option U) {nx bk ct : Rho → Cs → Prop} :
    Wp (denB C [] b19c [some ua,x1,some (.d (.list (cxD c0))),some (.ref 0),x4,x5,some (.d (.int cell)),none,none,none,none,none,none] A) nx bk ct Yes := by
  have hl := ((szOk_iff c0).mp g0.s).1
  unfold b19c
  have e7 : den C [] [some ua,x1,some (.d (.list (cxD c0))),some (.ref 0),x4,x5,some (.d (.int cell)),none,none,none,none,none,none] (.lst true (.cons (.v 2) .nil)) A = .ok (.ref A.length) (A ++ [.lst [.list (cxD c0)]]) := by
    have := E_lstT (C := C) (O := []) (ρ := [some ua,x1,some (.d (.list (cxD c0))),some (.ref 0),x4,x5,some (.d (.int cell)),none,none,none,none,none,none]) (T := A) (as := .cons (.v 2) .nil) (EA_cons (E_v rfl) EA_nil) (AD_cons AD_nil) (by decide)
    simpa using this
  refine sA_asg e7 (by sizeOf_list_dec) ?_
  have e8 := hC.copy (A ++ [.lst [.list (cxD c0)]]) (.d (.list (cxD c0))) c0 (.inl rfl) hl.1 (by omega)
  have hlA : (A ++ [Cell.lst [.list (cxD c0)]]).length = A.length + 1 := by simp
  have hW : A ++ [Cell.lst [.list (cxD c0)]] ++ Lay (A.length + 1) c0 = Wc A (.list (cxD c0) :: ([] : List (Int × Int)).map pairD) c0 := by simp [Wc]
  rw [hlA,hW] at e8
  refine sA_asg (E_callL (EA_cons (E_v rfl) EA_nil) rfl e8) (by sizeOf_list_dec) ?_
  obtain ⟨c1,ps1,e15,h1,hn1,hl1⟩ := hC.wr A c0 [] cell (Sp.nil c0) (by decide)
  refine st_ex (E_callL (EA_cons (E_v rfl) (EA_cons (E_v rfl) (EA_cons (E_v rfl) EA_nil))) rfl e15) ?_
  have hl1' : ps1.length ≤ 1 := by simpa using hl1
  obtain ⟨r,r0,r1,er⟩ := hC.pick [] (Wc A (.list (cxD c0) :: ps1.map pairD) c1) cell 2 3 (by decide)
  obtain ⟨p,ps,rfl⟩ : ∃ p ps,ps1 = p :: ps := by
    cases ps1 with
    | nil => exact absurd rfl hn1
    | cons p ps => exact ⟨p,ps,rfl⟩
  have hps : ps.length = 0 := by
    rw [List.length_cons] at hl1'
    omega
  refine sA_ite (v := decide (r = 0)) (T' := Wc A (.list (cxD c0) :: (p :: ps).map pairD) c1) (E_cmp (E_callD (EA_cons (E_v rfl) (EA_cons (E_c _) (EA_cons (E_c _) EA_nil))) rfl er) (E_c _) (K_eqI _ _)) (fun _ => ?_) fun _ => st_nil (last19 hC g0 A c1 p ps hA h1 (by omega) _ _ _ _ _)
  obtain ⟨w,hw⟩ := hU 2 (Wc A (.list (cxD c0) :: (p :: ps).map pairD) c1) (by decide) (by decide)
  obtain ⟨c2,ps2,e15',h2,hn2,hl2⟩ := hC.wr A c1 (p :: ps) w h1 (by omega)
  refine st_ex (E_callL (EA_cons (E_v rfl) (EA_cons (E_callD (EA_cons (E_v rfl) (EA_cons (E_c _) EA_nil)) rfl hw) (EA_cons (E_v rfl) EA_nil))) rfl e15') (st_nil ?_)
  obtain ⟨p',ps',rfl⟩ : ∃ p ps,ps2 = p :: ps := by
    cases ps2 with
    | nil => exact absurd rfl hn2
    | cons p ps => exact ⟨p,ps,rfl⟩
  exact last19 hC g0 A c2 p' ps' hA h2 (by rw [List.length_cons,List.length_cons] at hl2; omega) _ _ _ _ _
theorem first_len {c : CX} (h : ¬ (1 ≤ c.length ∧ c.length ≤ 6)) : First c (-1) (-1) := .len h
theorem part19 {C : Cn} {c0 : CX} {ua : U} (hC : Cl C c0) (hU : CellF C ua) (g0 : Good c0) (A : Cs) (rows : List U) (hr : getC [] A 0 = some (.lstU rows)) (hR : RowsR A c0 rows) (x1 x4 x5 : Option U) {nx bk ct : Rho → Cs → Prop} :
    Wp (denB C [] b19b [some ua,x1,some (.d (.list (cxD c0))),some (.ref 0),x4,x5,none,none,none,none,none,none,none] A) nx bk ct Yes := by
  have hl := ((szOk_iff c0).mp g0.s).1
  have hA : ChRep [] A (.ref 0) c0 := .inr ⟨0,rows,rfl,hr,hR.1,hR.2⟩
  have hmono : ∀ S,RowsR (A ++ S) c0 rows ∧ getC [] (A ++ S) 0 = some (.lstU rows) := fun S => ⟨⟨hR.1,fun f x hx => by
    obtain ⟨j,h1,h2⟩ := hR.2 f x hx
    exact ⟨j,h1,getC_app h2⟩⟩,getC_app hr⟩
  unfold b19b
  obtain ⟨cell,hcell⟩ := hU 1 A (by decide) (by decide)
  refine sA_asg (u := .d (.int cell)) (T' := A) (E_callD (EA_cons (E_v rfl) (EA_cons (E_c _) EA_nil)) rfl hcell) (by sizeOf_list_dec) ?_
  obtain ⟨us,em,hus⟩ := mul7 hr hR hl.1 hl.2
  have hR7 := (hmono [Cell.lstU us]).1.rep 7
  rw [← hus] at hR7
  have hl7 : ((List.replicate 7 c0).flatten).length = 7 * c0.length := len_rep _ _
  have hg7 : getC [] (A ++ [Cell.lstU us]) A.length = some (.lstU us) := by
    rw [getC_eq]
    simp
  have esl := slc7 hg7 hR7 (by omega)
  have hR77 := hR7.take 7
  have hrep : ChRep [] (A ++ [Cell.lstU us] ++ [Cell.lstU (us.take 7)]) (.ref (A ++ [Cell.lstU us]).length) (((List.replicate 7 c0).flatten).take 7) := by
    refine .inr ⟨_,us.take 7,rfl, ?_,hR77.1,fun f x hx => ?_⟩
    · rw [getC_eq]
      simp
    · obtain ⟨j,h1,h2⟩ := hR77.2 f x hx
      exact ⟨j,h1,getC_app h2⟩
  have eref7 := hC.ref _ _ _ _ _ hrep (first_len (by rw [List.length_take]; omega))
  have eref0 := hC.ref A (.d (.list [])) [] (-1) (-1) (.inl rfl) (first_len (by simp))
  have hA2 : ChRep [] (A ++ [Cell.lstU us] ++ [Cell.lstU (us.take 7)]) (.ref 0) c0 := by
    rw [List.append_assoc]
    exact hA.mono (ext_app _ _ _)
  have hr2 : getC [] (A ++ [Cell.lstU us] ++ [Cell.lstU (us.take 7)]) 0 = some (.lstU rows) ∧ RowsR (A ++ [Cell.lstU us] ++ [Cell.lstU (us.take 7)]) c0 rows := by
    rw [List.append_assoc]
    exact ⟨(hmono _).2,(hmono _).1⟩
  refine sA_iteF (v := false) (T' := A ++ [Cell.lstU us] ++ [Cell.lstU (us.take 7)]) (E_orG (E_cmp (E_v rfl) (E_v rfl) (cmp_cx hA).2) (E_orG (E_cmp (E_callD (EA_cons (E_lst EA_nil (by exact AD_nil) (by decide)) EA_nil) rfl eref0) (E_tup (EA_cons (E_neg (E_c _)) (EA_cons (E_neg (E_c _)) EA_nil)) (by exact AD_cons (AD_cons AD_nil)) (by decide)) (ne_pair _ _ _ _)) (E_cmp (E_callD (EA_cons (E_slcH rfl (E_bin (E_v rfl) (E_c _) em) (E_c _) esl) EA_nil) rfl eref7) (E_tup (EA_cons (E_neg (E_c _)) (EA_cons (E_neg (E_c _)) EA_nil)) (by exact AD_cons (AD_cons AD_nil)) (by decide)) (ne_pair _ _ _ _)))) rfl (st_nil ?_)
  generalize A ++ [Cell.lstU us] ++ [Cell.lstU (us.take 7)] = B at *
  obtain ⟨hrB,hRB⟩ := hr2
  obtain ⟨us',em',hus'⟩ := mul7 hrB hRB hl.1 hl.2
  have hlu : us'.length = 7 * c0.length := by rw [hus',len_rep,hRB.1]
  have hlen : biU [] false .len [.ref B.length] (B ++ [Cell.lstU us']) = .ok (.d (.int us'.length)) (B ++ [Cell.lstU us']) := W_lenRU (by rw [getC_eq]; simp)
  obtain ⟨r,r0,r1,er⟩ := hC.pick [] (B ++ [Cell.lstU us']) cell 1 3 (by decide)
  have hlt : decide ((us'.length : Int) < 7) = false := decide_eq_false (by omega)
  have hA3 : ChRep [] (B ++ [Cell.lstU us']) (.ref 0) c0 := hA2.mono (ext_app _ _ _)
  refine sA_ite (v := decide (r = 0)) (T' := B ++ [Cell.lstU us']) (E_orG (by rw [← hlt]; exact E_cmp (E_bi (EA_cons (E_bin (E_v rfl) (E_c _) em') EA_nil) hlen) (E_c _) (K_lt _ _)) (E_cmp (E_callD (EA_cons (E_v rfl) (EA_cons (E_c _) (EA_cons (E_c _) EA_nil))) rfl er) (E_c _) (K_eqI _ _))) (fun _ => ?_) fun _ => st_nil ?_
  · exact st_ret (E_c _) rfl
  refine sA_iteF (v := false) (T' := B ++ [Cell.lstU us']) (E_not (p := true) (E_callD (EA_cons (E_v rfl) (EA_cons (E_v rfl) EA_nil)) rfl (hC.too _ cell))) rfl (st_nil ?_)
  exact mid19 hC hU g0 _ hA3 cell _ _ _
end Lk21
namespace Lk21
open PySem Y Y.S
theorem lay_rows (c : CX) : RowsR (Lay 0 c) c (rowsOf 1 c) ∧ getC [] (Lay 0 c) 0 = some (.lstU (rowsOf 1 c)) := by
  have hg : getC [] (Lay 0 c) 0 = some (.lstU (rowsOf 1 c)) := L_row [] c
  refine ⟨⟨rows_len _ _,fun f x hx => ⟨1 + f, ?_, ?_⟩⟩,hg⟩
  · unfold rowsOf
    rw [List.getElem?_mapIdx,hx]
    rfl
  · have := L_lst [] c hx
    simpa using this
theorem found_loop {C : Cn} {A : Cs} {c : CX} {rest : CB} (hm : manyX c ≤ 24) (hc6 : c.length ≤ 6) (r0 r1 r2 r3 r5 r6 r7 r8 r9 r10 r11 r12 : Option U) {nx bk ct : Rho → Cs → Prop} {rt : U → Cs → Prop}
    (h : ∀ x5 S,Wp (denB C [] rest [r0,r1,r2,r3,some (.ref A.length),x5,r6,r7,r8,r9,r10,r11,r12] (A ++ .lstU (rowsOf (A.length + 1) c) :: S)) nx bk ct rt) :
    Wp (denB C [] (.cons (.for_ (.nm 5) (.lst (.v 4)) b19L) rest) [r0,r1,r2,r3,some (.ref A.length),r5,r6,r7,r8,r9,r10,r11,r12] (A ++ Lay A.length c)) nx bk ct rt := by
  have hg : ∀ S : Cs,getC [] (A ++ .lstU (rowsOf (A.length + 1) c) :: S) A.length = some (.lstU (rowsOf (A.length + 1) c)) := fun S => by
    rw [getC_eq]
    simp
  refine st_for ⟨rowsOf (A.length + 1) c,some A.length,A ++ Lay A.length c⟩ (A ++ Lay A.length c) (fun i ρ T => ∃ (ls : List (List D)) (x5 : Option U),T = A ++ .lstU (rowsOf (A.length + 1) c) :: ls.map Cell.lst ∧ ls.length = c.length ∧ (∀ l ∈ ls,l.length ≤ 24 + i) ∧ ρ = [r0,r1,r2,r3,some (.ref A.length),x5,r6,r7,r8,r9,r10,r11,r12]) ?_ ?_ ?_ ?_ ?_
  · rw [denI_lst,E_v rfl,R.bind_ok,seqL_ref,(show getC [] (A ++ Lay A.length c) A.length = _ from hg _)]
    rfl
  · refine ⟨c.map esD,r5,by simp [Lay],by simp,fun l hl => ?_,rfl⟩
    obtain ⟨x,hx,rfl⟩ := List.mem_map.mp hl
    obtain ⟨i,hi⟩ := List.getElem?_of_mem hx
    have h1 := pre_S hi
    have h2 := pre_le c (i + 1)
    rw [esD,List.length_map]
    omega
  · rintro i ρ T ⟨ls,x5,rfl,_⟩
    exact sameW_refl (hg _) (hg _) (.inr (.inl ⟨_,rfl⟩))
  · rintro i w hw ρ T ⟨ls,x5,rfl,hl,hb,rfl⟩
    have hw : (rowsOf (A.length + 1) c)[i]? = some w := hw
    unfold rowsOf at hw
    rw [List.getElem?_mapIdx,Option.map_eq_some_iff] at hw
    obtain ⟨x,hx,rfl⟩ := hw
    have hi := (List.getElem?_eq_some_iff.mp hx).1
    have hls : ls[i]? = some (ls[i]'(by omega)) := List.getElem?_eq_getElem _
    generalize ls[i]'(by omega) = l at hls
    have hll := hb l (List.mem_of_getElem? hls)
    refine ⟨[r0,r1,r2,r3,some (.ref A.length),some (.tup [.d (.int x.1),.d (.int x.2.1),.ref (A.length + 1 + i)]),r6,r7,r8,r9,r10,r11,r12],rfl, ?_⟩
    have hc : getC [] (A ++ Cell.lstU (rowsOf (A.length + 1) c) :: ls.map Cell.lst) (A.length + 1 + i) = some (.lst l) := by
      rw [getC_eq,List.nil_append,List.getElem?_append_right (by omega)]
      have : A.length + 1 + i - A.length = i + 1 := by omega
      rw [this]
      simp [hls]
    have hap := V_app (l := false) (x := .int 1) hc (Nat.zero_le _) (by omega)
    have hset : (A ++ Cell.lstU (rowsOf (A.length + 1) c) :: ls.map Cell.lst).set (A.length + 1 + i) (.lst (l ++ [.int 1])) = A ++ Cell.lstU (rowsOf (A.length + 1) c) :: (ls.set i (l ++ [.int 1])).map Cell.lst := by
      rw [List.set_append_right _ _ (by omega)]
      have : A.length + 1 + i - A.length = i + 1 := by omega
      rw [this,List.set_cons_succ,List.map_set]
    rw [List.length_nil,Nat.sub_zero,hset] at hap
    unfold b19L
    refine st_ex (E_mt (E_ix (E_v rfl) (E_c _) rfl) (TY_ref hc rfl) (EA_cons (E_c _) EA_nil) hap) (st_nil ⟨_,_,rfl,by rw [List.length_set]; exact hl,fun l' hl' => ?_,rfl⟩)
    rcases List.mem_or_eq_of_mem_set hl' with k | k
    · have := hb l' k
      omega
    · rw [k,List.length_append,List.length_singleton]
      omega
  · rintro ρ T ⟨ls,x5,rfl,hl,hb,rfl⟩
    exact h _ _
theorem cellN (n : Nat) (ns : List Int) (k : Int) (T : Cs) (h0 : 0 ≤ k) (h2 : k ≤ 2) : ∃ w : Int,callP (cn G (n + 1)) [] 8 [.d (.list (ns.map .int)),.d (.int k)] T = .ok (.d (.int w)) T := by
  suffices hg : Gv (Y.run G (n + 1) ([] ++ T) 8 [.d (.list (ns.map .int)),.d (.int k)] []) fun u T' => ∃ w : Int,u = .d (.int w) by
    obtain ⟨u,T',e,w,rfl⟩ := hg.ex
    exact ⟨w,callP_r [] T e⟩
  refine run_wp G8 rfl ?_
  have hlb : ∀ T,lenB ([] ++ T) [] (.d (.list (ns.map .int))) = .ok (.d (.int ns.length)) [] := fun T => by simp
  have hix : ∀ T,k < (ns.length : Int) → ∃ w : Int,ixU ([] ++ T) (.d (.list (ns.map .int))) (.d (.int k)) [] = some (.d (.int w)) := by
    intro T h
    have hlt : k.toNat < ns.length := by omega
    exact ⟨ns[k.toNat],by rw [ixU_L,atI_nat _ _ h0 (by simpa using h)]; simp [hlt]⟩
  obtain ⟨ua,hua⟩ : ∃ ua : U,ua = .d (.list (ns.map .int)) := ⟨_,rfl⟩
  rw [← hua] at hlb hix ⊢
  have hlb := hlb T
  have hix := hix T
  generalize (ns.length : Int) = ln at hlb hix
  generalize [] ++ T = O at hlb hix ⊢
  have m1 : mulOk 7919 k = true := mul_okL (by omega)
  simp only [b8]
  simp [hlb,m1]
  intro h
  obtain ⟨w,hw⟩ := hix h
  simp [hw]
theorem cl (c0 : CX) (g0 : Good c0) : Cl (cn G 39) c0 := by
  refine ⟨fun T u c h h1 h2 => ?_,fun T u c h hg => ?_,fun T u c f e h hF => refusal_ok 35 [] T u c h hF,fun T cell => too_many_ok 34 [] T c0 cell g0,fun A c ps cell h hl => wrong_ok 35 A c0 c ps cell g0 h g0.m hl,pick_run (G := G) rfl 38⟩
  · have := copied_ok 38 [] T u c h h1 h2
    simpa using this
  · have := checked_yes 36 [] T u c h hg
    simpa using this
theorem main : ∀ ns : List Int,ns.length ≤ 63 → ∃ T,Y.run G 40 [] 19 [.d (.list (ns.map .int))] [] = .ok (.d (.bool true)) T := by
  intro ns hns
  suffices hg : Gv (Y.run G 40 [] 19 [.d (.list (ns.map .int))] []) Yes by
    obtain ⟨u,T',e,rfl⟩ := hg.ex
    exact ⟨T',e⟩
  refine run_wp (n := 39) G19 rfl ?_
  have hch : ChartOk (cn G 39) 12 := chart_run (G := G) (jp := 9) (je := 11) rfl 38 (pick_run rfl 37) (edge_run (jt := 10) rfl 37 (pick_run rfl 36) (table_run rfl 36 (pick_run rfl 35)))
  have hU : CellF (cn G 39) (.d (.list (ns.map .int))) := fun k T h0 h2 => cellN 38 ns k T h0 h2
  obtain ⟨w,hw⟩ := hU 0 [] (by decide) (by decide)
  have hsl : slcU [] false (.d (.list (ns.map .int))) (some 3) none [] = .ok (.d (.list ((cut ns (some 3) none).map .int))) [] := by
    rw [slcU_L,cut_map,mkL_map]
  obtain ⟨ch,hok,hch⟩ := hch [] [] (cut ns (some 3) none) w
  have g0 := cx_good hok
  have hC := cl (cx ch) g0
  rw [← cx_D] at hch
  generalize (cut ns (some 3) none).map PyData.int = CL at hsl hch
  generalize cx ch = c0 at *
  obtain ⟨ua,hua⟩ : ∃ ua : U,ua = .d (.list (ns.map .int)) := ⟨_,rfl⟩
  rw [← hua] at hsl hw hU ⊢
  generalize cn G 39 = C at *
  have hl := ((szOk_iff c0).mp g0.s).1
  show Wp (denB C [] b19 [some ua,none,none,none,none,none,none,none,none,none,none,none,none] []) _ _ _ _
  rw [b19_eq]
  refine sA_asg (u := .d (.int w)) (T' := []) (E_callD (EA_cons (E_v rfl) (EA_cons (E_c _) EA_nil)) rfl hw) (by sizeOf_list_dec) ?_
  refine sA_asg (u := .d (.list (cxD c0))) (T' := []) (E_callD (EA_cons (E_slcL rfl (E_v rfl) (E_c _) hsl) (EA_cons (E_v rfl) EA_nil)) rfl hch) (by sizeOf_list_dec) ?_
  have e3 := hC.copy [] (.d (.list (cxD c0))) c0 (.inl rfl) hl.1 (by omega)
  have e3 : C.call [] 17 [.d (.list (cxD c0))] [] = .ok (.ref 0) (Lay 0 c0) := e3
  refine sA_asg (E_callL (EA_cons (E_v rfl) EA_nil) rfl e3) (by sizeOf_list_dec) ?_
  have hA : ChRep [] (Lay 0 c0) (.ref 0) c0 := L_rep [] c0
  have e4 := hC.chk _ _ _ hA g0
  refine sA_asg (E_callL (EA_cons (E_v rfl) EA_nil) rfl e4) (by sizeOf_list_dec) ?_
  obtain ⟨hRow,hg0⟩ := lay_rows c0
  generalize Lay 0 c0 = A at *
  have hF : ChRep [] (A ++ Lay A.length c0) (.ref A.length) c0 := by
    have := lay_rep [] A [] c0
    simpa using this
  have hA2 : ChRep [] (A ++ Lay A.length c0) (.ref 0) c0 := hA.mono (ext_app _ _ _)
  have hty : biU [] false .islist [.ref A.length] (A ++ Lay A.length c0) = .ok (.d (.bool true)) (A ++ Lay A.length c0) := by
    have hgk : getC [] (A ++ Lay A.length c0) A.length = some (.lstU (rowsOf (A.length + 1) c0)) := by
      rw [getC_eq]
      simp [Lay]
    show isB [] (A ++ Lay A.length c0) .list (.ref A.length) = _
    unfold isB
    rw [tyU_ref,hgk]
    rfl
  refine sA_iteF (v := false) (T' := A ++ Lay A.length c0) (E_or (p := false) (E_not (p := true) (E_bi (EA_cons (E_v rfl) EA_nil) hty)) fun _ => E_or (p := false) (q := false) (E_cmp (E_v rfl) (E_v rfl) (cmp_cx hF).2) fun _ => E_cmp (E_v rfl) (E_v rfl) (cmp_cx hA2).2) rfl (st_nil ?_)
  refine found_loop g0.m hl.2 _ _ _ _ _ _ _ _ _ _ _ _ fun x5 S => ?_
  have hgk : getC [] (A ++ Cell.lstU (rowsOf (A.length + 1) c0) :: S) A.length = some (.lstU (rowsOf (A.length + 1) c0)) := by
    rw [getC_eq]
    simp
  have hap := V_appU (l := false) (v := .d (.int 2)) hgk (Nat.zero_le _) (by rw [rows_len]; omega)
  have hset : (A ++ Cell.lstU (rowsOf (A.length + 1) c0) :: S).set (A.length - ([] : Cs).length) (.lstU (rowsOf (A.length + 1) c0 ++ [.d (.int 2)])) = A ++ (Cell.lstU (rowsOf (A.length + 1) c0 ++ [.d (.int 2)]) :: S) := by
    simp [List.set_append]
  rw [hset] at hap
  refine st_ex (E_mt (E_v rfl) (TY_refU hgk rfl) (EA_cons (E_c _) EA_nil) hap) ?_
  refine part19 hC hU g0 _ (rowsOf 1 c0) (getC_app hg0) ⟨hRow.1,fun f x hx => ?_⟩ _ _ _
  obtain ⟨j,h1,h2⟩ := hRow.2 f x hx
  exact ⟨j,h1,getC_app h2⟩
end Lk21
namespace Lk21
open PySem PySem.Spec PyProof.Rows L2 Y
def top (i : Nat) : Stmt := PySem.Challenge.pw_callmatch_k21_charts_looked_at.main.body.getD i (.Pass ⟨0,0,0,0⟩)
abbrev s5 : Stmt := (top 15)
abbrev s6 : Stmt := (top 16)
abbrev s7 : Stmt := (top 17)
abbrev s8 : Stmt := (top 19)
abbrev s9 : Stmt := (top 20)
abbrev s10 : Stmt := (top 21)
abbrev s11 : Stmt := (top 22)
abbrev s12 : Stmt := (top 23)
abbrev s13 : Stmt := (top 24)
abbrev s14 : Stmt := (top 25)
abbrev s15 : Stmt := (top 26)
abbrev s16 : Stmt := (top 27)
abbrev s17 : Stmt := (top 28)
abbrev s18 : Stmt := (top 29)
abbrev s19 : Stmt := (top 30)
structure EnP (P : Program) (w : World) (K : PySem.W.Frag) (mg : Str → Option Value) (base : Heap) (ca : Nat → Addr) (n : Nat) : Prop where
  b_ValueError : mg "ValueError" = none
  b_enumerate : mg "enumerate" = none
  b_int : mg "int" = none
  b_isinstance : mg "isinstance" = none
  b_len : mg "len" = none
  b_list : mg "list" = none
  b_min : mg "min" = none
  b_range : mg "range" = none
  b_tuple : mg "tuple" = none
  g_4 : ∃ u v,mg "MOST_COST" = some u ∧ RelV v u ∧ ∀ G,Rp G v (.int 1000000000000000000)
  g_3 : ∃ u v,mg "MOST_EDGES" = some u ∧ RelV v u ∧ ∀ G,Rp G v (.int 24)
  g_0 : ∃ u v,mg "MOST_FACTS" = some u ∧ RelV v u ∧ ∀ G,Rp G v (.int 6)
  g_1 : ∃ u v,mg "MOST_FUNCTIONS" = some u ∧ RelV v u ∧ ∀ G,Rp G v (.int 6)
  g_2 : ∃ u v,mg "MOST_PLACES" = some u ∧ RelV v u ∧ ∀ G,Rp G v (.int 10)
  xg_0 : mg "CallError" = some (.ref (ca 0))
  xg_4 : mg "NoChart" = some (.ref (ca 4))
  xg_3 : mg "NoName" = some (.ref (ca 3))
  xg_6 : mg "NoPaper" = some (.ref (ca 6))
  xg_1 : mg "NoTable" = some (.ref (ca 1))
  xg_7 : mg "NoText" = some (.ref (ca 7))
  xg_5 : mg "NoWay" = some (.ref (ca 5))
  xg_2 : mg "TooLong" = some (.ref (ca 2))
  xc_4 : ExcC K (ca 4)
  xi_4_4 : PySem.W.kitOne K (.ref (ca 4)) (.ref (ca 4)) = some true
  xi_4_3 : PySem.W.kitOne K (.ref (ca 4)) (.ref (ca 3)) = some false
  xi_4_6 : PySem.W.kitOne K (.ref (ca 4)) (.ref (ca 6)) = some false
  xi_4_1 : PySem.W.kitOne K (.ref (ca 4)) (.ref (ca 1)) = some false
  xi_4_7 : PySem.W.kitOne K (.ref (ca 4)) (.ref (ca 7)) = some false
  xi_4_5 : PySem.W.kitOne K (.ref (ca 4)) (.ref (ca 5)) = some false
  xi_4_2 : PySem.W.kitOne K (.ref (ca 4)) (.ref (ca 2)) = some false
  xi_4_V : PySem.W.kitOne K (.ref (ca 4)) (.type "ValueError") = some true
  xf_4 : XfC K (ca 4)
  xn_4_edge : PySem.W.findIn K (.ref (ca 4)) "edge" = some none
  xn_4_function : PySem.W.findIn K (.ref (ca 4)) "function" = some none
  xm_4_0 : PySem.W.exmOne K (.ref (ca 4)) (.ref (ca 0)) = some true
  cx_7 : CalX P w K mg base ca (run G n) (2 * n + 2) 7 1 "checked"
  xI_4 : IniX P w K mg base ca 4 "NoChart" ["function", "edge"]
  c_8_0 : CalY P w K mg base ca (run G n) (2 * n + 2) 8 2 "_law_cell_at" []
  c_12_0 : CalY P w K mg base ca (run G n) (2 * n + 2) 12 2 "_law_chart" []
  c_17_0 : CalY P w K mg base ca (run G n) (2 * n + 2) 17 1 "_law_copied" []
  c_11_0 : CalY P w K mg base ca (run G n) (2 * n + 2) 11 3 "_law_edge" []
  c_9_0 : CalY P w K mg base ca (run G n) (2 * n + 2) 9 3 "_law_pick" []
  c_16_0 : CalY P w K mg base ca (run G n) (2 * n + 2) 16 1 "_law_refusal" []
  c_14_0 : CalY P w K mg base ca (run G n) (2 * n + 2) 14 4 "_law_spoilt_edge" []
  c_13_0 : CalY P w K mg base ca (run G n) (2 * n + 2) 13 3 "_law_spoilt_mask" []
  c_10_0 : CalY P w K mg base ca (run G n) (2 * n + 2) 10 4 "_law_table" []
  c_18_0 : CalY P w K mg base ca (run G n) (2 * n + 2) 18 2 "_law_too_many" []
  c_15_0 : CalY P w K mg base ca (run G n) (2 * n + 2) 15 3 "_law_wrong" []
  c_7_0 : CalY P w K mg base ca (run G n) (2 * n + 2) 7 1 "checked" []
  c_6_0 : CalY P w K mg base ca (run G n) (2 * n + 2) 6 3 "is_edge" []
  c_5_0 : CalY P w K mg base ca (run G n) (2 * n + 2) 5 3 "is_table" []
theorem EnP.to {X Y : Cx} {ca : Nat → Addr} {n : Nat} (E : EnP X.prog X.w X.K X.mg X.base ca n) (e1 : Y.prog = X.prog) (e2 : Y.w = X.w) (e3 : Y.K = X.K) (e4 : Y.mg = X.mg) (e5 : Y.base = X.base) : EnP Y.prog Y.w Y.K Y.mg Y.base ca n := by
  rw [e1,e2,e3,e4,e5]; exact E
def sc5 : Scope := { kind := .function,names := [("table",.local),("many",.local),("facts",.local),("mask",.local),("len",.globalImplicit)],isGenerator := false,isCoroutine := false,more := [] }
theorem sc_5 : defScope s5 = sc5 := rfl
theorem fs_5 : FnScope ["table", "many", "facts", "mask"] ["table", "many", "facts"] sc5 := ⟨rfl,rfl,rfl,by decide +kernel,rfl,by decide +kernel,by decide +kernel⟩
theorem body5 {X : Cx} {ca : Nat → Addr} {n : Nat} (g : Cg X ["table", "many", "facts", "mask"] sc5 [true,true,true,true] [true,true,true,true] (2 * n + 2)) (E : EnP X.prog X.w X.K X.mg X.base ca n) : PSs X (defBody s5) (RBl ca (cn G n) b5) :=
 (b_cons (s_if (t_cm g (o := .ne) (f_len g E.b_len (a_cons (y_v g 0) a_nil)) (y_v g 1)) (b_cons (s_ret y_bl)
  b_nil)
  b_nil)
 (b_cons (s_for g (i_tup (y_v g 0)) (g_nm g 3) (b_cons (s_if (t_not (t_ch g (o := .le) (o' := .lt) y_int (y_v g 3) (y_bin (o := .shl) y_int (y_v g 2)))) (b_cons (s_ret y_bl)
   b_nil)
   b_nil)
  b_nil))
 (b_cons (s_ret y_bl)
 b_nil)))
theorem ok5 {P : Program} {w : World} {K : PySem.W.Frag} {mg : Str → Option Value} {base : Heap} {ca : Nat → Addr} {f : Addr} {fd : FuncData} {n : Nat} (F : Fun K "is_table" "is_table" s5 f fd) (E : EnP P w K mg base ca n) : FnOk P w K mg base CX0 (2 * n + 3) f fd ["table", "many", "facts"] (spR ca (run G (n + 1)) 5 3) :=
  def_ok F sc_5 fs_5 G5 rfl rfl (by decide +kernel) (by decide +kernel) (by decide +kernel) fun X e1 e2 e3 e4 e5 g => body5 g (by rw [e1,e2,e3,e4,e5]; exact E)
def sc6 : Scope := { kind := .function,names := [("chart",.local),("f",.local),("edge",.local),("places",.local),("facts",.local),("edges",.local),("others",.local),("good",.local),("MOST_COST",.globalImplicit),("is_table",.globalImplicit),("len",.globalImplicit)],isGenerator := false,isCoroutine := false,more := [] }
theorem sc_6 : defScope s6 = sc6 := rfl
theorem fs_6 : FnScope ["chart", "f", "edge", "places", "facts", "edges", "others", "good"] ["chart", "f", "edge"] sc6 := ⟨rfl,rfl,rfl,by decide +kernel,rfl,by decide +kernel,by decide +kernel⟩
theorem body6 {X : Cx} {ca : Nat → Addr} {n : Nat} (g : Cg X ["chart", "f", "edge", "places", "facts", "edges", "others", "good"] sc6 [true,true,true,true,true,true,true,true] [true,true,true,true,true,true,true,true] (2 * n + 2)) (E : EnP X.prog X.w X.K X.mg X.base ca n) : PSs X (defBody s6) (RBl ca (cn G n) b6) :=
 (b_cons (s_as (y_ix g (y_v g 0) (y_v g 1)) (g_tp g (g_cons (g_nm g 3) (g_cons (g_nm g 4) (g_cons (g_nm g 5) g_nil)))))
 (b_cons (s_if (t_w (w_or (t_not (t_ch g (o := .le) (o' := .lt) y_int (y_ix g (y_v g 2) y_int) (y_v g 3))) (w_or (t_not (t_ch g (o := .le) (o' := .lt) y_int (y_ix g (y_v g 2) y_int) (y_v g 3))) (w_or1 (t_not (t_ch g (o := .le) (o' := .le) y_int (y_ix g (y_v g 2) y_int) (y_g g E.g_4 rfl))))))) (b_cons (s_ret y_bl)
  b_nil)
  b_nil)
 (b_cons (s_if (t_cm g (o := .eq) (y_ix g (y_v g 2) y_int) y_str) (b_cons (s_ret (y_call g E.c_5_0 (a_cons (y_ix g (y_v g 2) y_int) (a_cons (y_v g 4) (a_cons (y_v g 4) a_nil)))))
  b_nil)
  b_nil)
 (b_cons (s_if (t_not (t_ch g (o := .le) (o' := .lt) y_int (y_ix g (y_v g 2) y_int) (f_len g E.b_len (a_cons (y_v g 0) a_nil)))) (b_cons (s_ret y_bl)
  b_nil)
  b_nil)
 (b_cons (s_as (y_ix g (y_ix g (y_v g 0) (y_ix g (y_v g 2) y_int)) y_int) (g_nm g 6))
 (b_cons (s_as (y_and (y_call g E.c_5_0 (a_cons (y_ix g (y_v g 2) y_int) (a_cons (y_v g 4) (a_cons (y_v g 6) a_nil)))) (y_one (y_call g E.c_5_0 (a_cons (y_ix g (y_v g 2) y_int) (a_cons (y_v g 6) (a_cons (y_v g 4) a_nil)))))) (g_nm g 7))
 (b_cons (s_ret (y_and (y_v g 7) (y_one (y_call g E.c_5_0 (a_cons (y_ix g (y_v g 2) y_int) (a_cons (y_v g 4) (a_cons (y_v g 4) a_nil)))))))
 b_nil)))))))
theorem ok6 {P : Program} {w : World} {K : PySem.W.Frag} {mg : Str → Option Value} {base : Heap} {ca : Nat → Addr} {f : Addr} {fd : FuncData} {n : Nat} (F : Fun K "is_edge" "is_edge" s6 f fd) (E : EnP P w K mg base ca n) : FnOk P w K mg base CX0 (2 * n + 3) f fd ["chart", "f", "edge"] (spR ca (run G (n + 1)) 6 3) :=
  def_ok F sc_6 fs_6 G6 rfl rfl (by decide +kernel) (by decide +kernel) (by decide +kernel) fun X e1 e2 e3 e4 e5 g => body6 g (by rw [e1,e2,e3,e4,e5]; exact E)
def sc7 : Scope := { kind := .function,names := [("chart",.local),("f",.local),("function",.local),("many",.local),("number",.local),("edge",.local),("len",.globalImplicit),("MOST_FUNCTIONS",.globalImplicit),("NoChart",.globalImplicit),("enumerate",.globalImplicit),("MOST_PLACES",.globalImplicit),("MOST_FACTS",.globalImplicit),("MOST_EDGES",.globalImplicit),("is_edge",.globalImplicit)],isGenerator := false,isCoroutine := false,more := [("fast",.str "chart"),("fast",.str "f"),("fast",.str "function"),("fast",.str "many"),("fast",.str "number"),("fast",.str "edge")] }
theorem sc_7 : defScope s7 = sc7 := rfl
theorem fs_7 : FnScope ["chart", "f", "function", "many", "number", "edge"] ["chart"] sc7 := ⟨rfl,rfl,rfl,by decide +kernel,rfl,by decide +kernel,by decide +kernel⟩
theorem body7 {X : Cx} {ca : Nat → Addr} {n : Nat} (g : Cg X ["chart", "f", "function", "many", "number", "edge"] sc7 [true,true,true,true,true,true] [true,true,true,true,true,true] (2 * n + 2)) (E : EnP X.prog X.w X.K X.mg X.base ca n) : PSs X (defBody s7) (RBl ca (cn G n) b7) :=
 (b_cons (s_if (t_not (t_ch g (o := .le) (o' := .le) y_int (f_len g E.b_len (a_cons (y_v g 0) a_nil)) (y_g g E.g_1 rfl))) (b_cons s_raise0
  b_nil)
  b_nil)
 (b_cons (s_for g (i_en g E.b_enumerate (y_v g 0)) (g_tp g (g_cons (g_nm g 1) (g_cons (g_nm g 2) g_nil))) (b_cons (s_if (t_w (w_or (t_not (t_ch g (o := .le) (o' := .le) y_int (y_ix g (y_v g 2) y_int) (y_g g E.g_2 rfl))) (w_or1 (t_not (t_ch g (o := .le) (o' := .le) y_int (y_ix g (y_v g 2) y_int) (y_g g E.g_0 rfl)))))) (b_cons s_raise0
   b_nil)
   b_nil)
  b_nil))
 (b_cons (s_as y_int (g_nm g 3))
 (b_cons (s_for g (i_en g E.b_enumerate (y_v g 0)) (g_tp g (g_cons (g_nm g 1) (g_cons (g_nm g 2) g_nil))) (b_cons (s_for g (i_en g E.b_enumerate (y_ix g (y_v g 2) y_int)) (g_tp g (g_cons (g_nm g 4) (g_cons (g_nm g 5) g_nil))) (b_cons (s_as (y_bin (o := .add) (y_v g 3) y_int) (g_nm g 3))
   (b_cons (s_if (t_w (w_or (t_cm g (o := .gt) (y_v g 3) (y_g g E.g_3 rfl)) (w_or1 (t_not (t_e (y_call g E.c_6_0 (a_cons (y_v g 0) (a_cons (y_v g 1) (a_cons (y_v g 5) a_nil))))))))) (b_cons s_raise0
    b_nil)
    b_nil)
   b_nil)))
  b_nil))
 (b_cons (s_ret (y_lc g (own := [("function",2)]) { kind := .function,names := [(".0",.local),("function",.local),("list",.globalImplicit)],isGenerator := false,isCoroutine := false,more := [] } [false,false,true,false,false,false] [false,false,true,false,false,false] (by decide +kernel) (by decide +kernel) (by decide +kernel) (by decide +kernel) (by decide +kernel) (i_lst (y_v g 0))
 (fun Y e1 e2 e3 e4 e5 g1 => have E1 := E.to e1 e2 e3 e4 e5
  ⟨(g_nm g1 2),c_no,(y_tup (a_cons (y_ix g1 (y_v g1 2) y_int) (a_cons (y_ix g1 (y_v g1 2) y_int) (a_cons (f_list g1 E1.b_list (a_cons (y_ix g1 (y_v g1 2) y_int) a_nil)) a_nil))))⟩)))
 b_nil)))))
theorem ok7 {P : Program} {w : World} {K : PySem.W.Frag} {mg : Str → Option Value} {base : Heap} {ca : Nat → Addr} {f : Addr} {fd : FuncData} {n : Nat} (F : Fun K "checked" "checked" s7 f fd) (E : EnP P w K mg base ca n) : FnOk P w K mg base CX0 (2 * n + 3) f fd ["chart"] (spR ca (run G (n + 1)) 7 1) :=
  def_ok F sc_7 fs_7 G7 rfl rfl (by decide +kernel) (by decide +kernel) (by decide +kernel) fun X e1 e2 e3 e4 e5 g => body7 g (by rw [e1,e2,e3,e4,e5]; exact E)
theorem bodyX7 {X : Cx} {W : WX} {ca : Nat → Addr} {n : Nat} (g : Cg X.nox ["chart", "f", "function", "many", "number", "edge"] sc7 [true,true,true,true,true,true] [true,true,true,true,true,true] (2 * n + 2)) (E : EnP X.prog X.w X.K X.mg X.base ca n) (tk : Takes X W) (hp : PassesOwn (model X.prog X.w) X.A X.env X.xe) : PSs X (defBody s7) (RBx ca (cn G n) W b7) :=
 (x_cons (x_if (t_not (t_ch g (o := .le) (o' := .le) y_int (f_len g E.b_len (a_cons (y_v g 0) a_nil)) (y_g g E.g_1 rfl))) (x_cons (x_raiseI g.calm tk E.xI_4 (g.room.mono (by omega)) (gl_of (X := X.nox) g rfl) (by decide) (by decide) (a_cons (y_neg y_int) (a_cons (y_neg y_int) a_nil)))
  x_nil)
  x_nil)
 (x_cons (x_for g hp (i_en g E.b_enumerate (y_v g 0)) (g_tp g (g_cons (g_nm g 1) (g_cons (g_nm g 2) g_nil))) (x_cons (x_if (t_w (w_or (t_not (t_ch g (o := .le) (o' := .le) y_int (y_ix g (y_v g 2) y_int) (y_g g E.g_2 rfl))) (w_or1 (t_not (t_ch g (o := .le) (o' := .le) y_int (y_ix g (y_v g 2) y_int) (y_g g E.g_0 rfl)))))) (x_cons (x_raiseI g.calm tk E.xI_4 (g.room.mono (by omega)) (gl_of (X := X.nox) g rfl) (by decide) (by decide) (a_cons (y_v g 1) (a_cons (y_neg y_int) a_nil)))
   x_nil)
   x_nil)
  x_nil))
 (x_cons (x_st (s_as y_int (g_nm g 3)) n_asg)
 (x_cons (x_for g hp (i_en g E.b_enumerate (y_v g 0)) (g_tp g (g_cons (g_nm g 1) (g_cons (g_nm g 2) g_nil))) (x_cons (x_for g hp (i_en g E.b_enumerate (y_ix g (y_v g 2) y_int)) (g_tp g (g_cons (g_nm g 4) (g_cons (g_nm g 5) g_nil))) (x_cons (x_st (s_as (y_bin (o := .add) (y_v g 3) y_int) (g_nm g 3)) n_asg)
   (x_cons (x_if (t_w (w_or (t_cm g (o := .gt) (y_v g 3) (y_g g E.g_3 rfl)) (w_or1 (t_not (t_e (y_call g E.c_6_0 (a_cons (y_v g 0) (a_cons (y_v g 1) (a_cons (y_v g 5) a_nil))))))))) (x_cons (x_raiseI g.calm tk E.xI_4 (g.room.mono (by omega)) (gl_of (X := X.nox) g rfl) (by decide) (by decide) (a_cons (y_v g 1) (a_cons (y_v g 4) a_nil)))
    x_nil)
    x_nil)
   x_nil)))
  x_nil))
 (x_cons (x_st (s_ret (y_lc g (own := [("function",2)]) { kind := .function,names := [(".0",.local),("function",.local),("list",.globalImplicit)],isGenerator := false,isCoroutine := false,more := [] } [false,false,true,false,false,false] [false,false,true,false,false,false] (by decide +kernel) (by decide +kernel) (by decide +kernel) (by decide +kernel) (by decide +kernel) (i_lst (y_v g 0))
 (fun Y e1 e2 e3 e4 e5 g2 => have E2 := E.to e1 e2 e3 e4 e5
  ⟨(g_nm g2 2),c_no,(y_tup (a_cons (y_ix g2 (y_v g2 2) y_int) (a_cons (y_ix g2 (y_v g2 2) y_int) (a_cons (f_list g2 E2.b_list (a_cons (y_ix g2 (y_v g2 2) y_int) a_nil)) a_nil))))⟩))) n_ret)
 x_nil)))))
theorem okX7 {P : Program} {w : World} {K : PySem.W.Frag} {mg : Str → Option Value} {base : Heap} {ca : Nat → Addr} {f : Addr} {fd : FuncData} {n : Nat} (F : Fun K "checked" "checked" s7 f fd) (E : EnP P w K mg base ca n) : FnOk P w K mg base (L2.CX P w) (2 * n + 3) f fd ["chart"] (spX ca (run G (n + 1)) 7 1) :=
  def_okX F sc_7 fs_7 G7 rfl rfl (by decide +kernel) (by decide +kernel) (by decide +kernel) fun X W e1 e2 e3 e4 e5 g tk hp => bodyX7 g (by rw [e1,e2,e3,e4,e5]; exact E) tk hp
def sc8 : Scope := { kind := .function,names := [("_law_script",.local),("_law_k",.local),("len",.globalImplicit)],isGenerator := false,isCoroutine := false,more := [] }
theorem sc_8 : defScope s8 = sc8 := rfl
theorem fs_8 : FnScope ["_law_script", "_law_k"] ["_law_script", "_law_k"] sc8 := ⟨rfl,rfl,rfl,by decide +kernel,rfl,by decide +kernel,by decide +kernel⟩
theorem body8 {X : Cx} {ca : Nat → Addr} {n : Nat} (g : Cg X ["_law_script", "_law_k"] sc8 [true,true] [true,true] (2 * n + 2)) (E : EnP X.prog X.w X.K X.mg X.base ca n) : PSs X (defBody s8) (RBl ca (cn G n) b8) :=
 (b_cons (s_if (t_cm g (o := .lt) (y_v g 1) (f_len g E.b_len (a_cons (y_v g 0) a_nil))) (b_cons (s_ret (y_ix g (y_v g 0) (y_v g 1)))
  b_nil)
  b_nil)
 (b_cons (s_ret (y_bin (o := .add) (y_bin (o := .mul) y_int (y_v g 1)) (f_len g E.b_len (a_cons (y_v g 0) a_nil))))
 b_nil))
theorem ok8 {P : Program} {w : World} {K : PySem.W.Frag} {mg : Str → Option Value} {base : Heap} {ca : Nat → Addr} {f : Addr} {fd : FuncData} {n : Nat} (F : Fun K "_law_cell_at" "_law_cell_at" s8 f fd) (E : EnP P w K mg base ca n) : FnOk P w K mg base CX0 (2 * n + 3) f fd ["_law_script", "_law_k"] (spR ca (run G (n + 1)) 8 2) :=
  def_ok F sc_8 fs_8 G8 rfl rfl (by decide +kernel) (by decide +kernel) (by decide +kernel) fun X e1 e2 e3 e4 e5 g => body8 g (by rw [e1,e2,e3,e4,e5]; exact E)
def sc9 : Scope := { kind := .function,names := [("_law_cell",.local),("_law_k",.local),("_law_many",.local),("_law_by",.local),("_law_number",.local)],isGenerator := false,isCoroutine := false,more := [] }
theorem sc_9 : defScope s9 = sc9 := rfl
theorem fs_9 : FnScope ["_law_cell", "_law_k", "_law_many", "_law_by", "_law_number"] ["_law_cell", "_law_k", "_law_many"] sc9 := ⟨rfl,rfl,rfl,by decide +kernel,rfl,by decide +kernel,by decide +kernel⟩
theorem body9 {X : Cx} {ca : Nat → Addr} {n : Nat} (g : Cg X ["_law_cell", "_law_k", "_law_many", "_law_by", "_law_number"] sc9 [true,true,true,true,true] [true,true,true,true,true] (2 * n + 2)) (E : EnP X.prog X.w X.K X.mg X.base ca n) : PSs X (defBody s9) (RBl ca (cn G n) b9) :=
 (b_cons (s_as (y_ix g (y_lst (a_cons y_int (a_cons y_int (a_cons y_int (a_cons y_int (a_cons y_int (a_cons y_int (a_cons y_int a_nil)))))))) (y_bin (o := .mod) (y_v g 1) y_int)) (g_nm g 3))
 (b_cons (s_as (y_bin (o := .add) (y_bin (o := .add) (y_bin (o := .mul) (y_bin (o := .mod) (y_v g 0) y_int) (y_v g 3)) (y_bin (o := .mul) y_int (y_v g 1))) y_int) (g_nm g 4))
 (b_cons (s_ret (y_bin (o := .mod) (y_bin (o := .mod) (y_bin (o := .mul) (y_v g 4) (y_bin (o := .add) (y_bin (o := .mod) (y_v g 4) y_int) y_int)) (y_ix g (y_lst (a_cons y_int (a_cons y_int (a_cons y_int a_nil)))) (y_bin (o := .mod) (y_v g 1) y_int))) (y_v g 2)))
 b_nil)))
theorem ok9 {P : Program} {w : World} {K : PySem.W.Frag} {mg : Str → Option Value} {base : Heap} {ca : Nat → Addr} {f : Addr} {fd : FuncData} {n : Nat} (F : Fun K "_law_pick" "_law_pick" s9 f fd) (E : EnP P w K mg base ca n) : FnOk P w K mg base CX0 (2 * n + 3) f fd ["_law_cell", "_law_k", "_law_many"] (spR ca (run G (n + 1)) 9 3) :=
  def_ok F sc_9 fs_9 G9 rfl rfl (by decide +kernel) (by decide +kernel) (by decide +kernel) fun X e1 e2 e3 e4 e5 g => body9 g (by rw [e1,e2,e3,e4,e5]; exact E)
def sc10 : Scope := { kind := .function,names := [("_law_cell",.local),("_law_k",.local),("_law_n",.local),("_law_to",.local),("_law_rows",.local),("_law_fact",.local),("_law_mask",.local),("range",.globalImplicit),("_law_pick",.globalImplicit),("tuple",.globalImplicit)],isGenerator := false,isCoroutine := false,more := [] }
theorem sc_10 : defScope s10 = sc10 := rfl
theorem fs_10 : FnScope ["_law_cell", "_law_k", "_law_n", "_law_to", "_law_rows", "_law_fact", "_law_mask"] ["_law_cell", "_law_k", "_law_n", "_law_to"] sc10 := ⟨rfl,rfl,rfl,by decide +kernel,rfl,by decide +kernel,by decide +kernel⟩
theorem body10 {X : Cx} {ca : Nat → Addr} {n : Nat} (g : Cg X ["_law_cell", "_law_k", "_law_n", "_law_to", "_law_rows", "_law_fact", "_law_mask"] sc10 [true,true,true,true,true,true,true] [true,true,true,true,true,true,true] (2 * n + 2)) (E : EnP X.prog X.w X.K X.mg X.base ca n) : PSs X (defBody s10) (RBl ca (cn G n) b10) :=
 (b_cons (s_as (y_lst a_nil) (g_nm g 4))
 (b_cons (s_for g (i_r1 g E.b_range (y_v g 2)) (g_nm g 5) (b_cons (s_as (y_call g E.c_9_0 (a_cons (y_v g 0) (a_cons (y_bin (o := .add) (y_v g 1) (y_bin (o := .mul) y_int (y_v g 5))) (a_cons (y_bin (o := .shl) y_int (y_v g 3)) a_nil)))) (g_nm g 6))
  (b_cons (s_if (t_cm g (o := .gt) (y_call g E.c_9_0 (a_cons (y_v g 0) (a_cons (y_bin (o := .add) (y_v g 1) y_int) (a_cons y_int a_nil)))) y_int) (b_cons (s_as (y_bin (o := .band) (y_v g 6) (y_call g E.c_9_0 (a_cons (y_v g 0) (a_cons (y_bin (o := .add) (y_bin (o := .add) (y_v g 1) (y_bin (o := .mul) y_int (y_v g 5))) y_int) (a_cons (y_bin (o := .shl) y_int (y_v g 3)) a_nil))))) (g_nm g 6))
   b_nil)
   b_nil)
  (b_cons (s_if (t_cm g (o := .gt) (y_call g E.c_9_0 (a_cons (y_v g 0) (a_cons (y_bin (o := .add) (y_v g 1) y_int) (a_cons y_int a_nil)))) y_int) (b_cons (s_as (y_bin (o := .bor) (y_v g 6) (y_bin (o := .shl) y_int (y_bin (o := .mod) (y_v g 5) (y_v g 3)))) (g_nm g 6))
   b_nil)
   b_nil)
  (b_cons (s_ex (m_append g (y_v g 4) (a_cons (y_v g 6) a_nil)))
  b_nil)))))
 (b_cons (s_ret (f_tuple g E.b_tuple (a_cons (y_v g 4) a_nil)))
 b_nil)))
theorem ok10 {P : Program} {w : World} {K : PySem.W.Frag} {mg : Str → Option Value} {base : Heap} {ca : Nat → Addr} {f : Addr} {fd : FuncData} {n : Nat} (F : Fun K "_law_table" "_law_table" s10 f fd) (E : EnP P w K mg base ca n) : FnOk P w K mg base CX0 (2 * n + 3) f fd ["_law_cell", "_law_k", "_law_n", "_law_to"] (spR ca (run G (n + 1)) 10 4) :=
  def_ok F sc_10 fs_10 G10 rfl rfl (by decide +kernel) (by decide +kernel) (by decide +kernel) fun X e1 e2 e3 e4 e5 g => body10 g (by rw [e1,e2,e3,e4,e5]; exact E)
def sc11 : Scope := { kind := .function,names := [("_law_sizes",.local),("_law_f",.local),("_law_cell",.local),("_law_places",.local),("_law_facts",.local),("_law_some",.local),("_law_cost",.local),("_law_head",.local),("_law_g",.local),("_law_into",.local),("_law_outward",.local),("_law_pick",.globalImplicit),("_law_table",.globalImplicit),("len",.globalImplicit)],isGenerator := false,isCoroutine := false,more := [] }
theorem sc_11 : defScope s11 = sc11 := rfl
theorem fs_11 : FnScope ["_law_sizes", "_law_f", "_law_cell", "_law_places", "_law_facts", "_law_some", "_law_cost", "_law_head", "_law_g", "_law_into", "_law_outward"] ["_law_sizes", "_law_f", "_law_cell"] sc11 := ⟨rfl,rfl,rfl,by decide +kernel,rfl,by decide +kernel,by decide +kernel⟩
theorem body11 {X : Cx} {ca : Nat → Addr} {n : Nat} (g : Cg X ["_law_sizes", "_law_f", "_law_cell", "_law_places", "_law_facts", "_law_some", "_law_cost", "_law_head", "_law_g", "_law_into", "_law_outward"] sc11 [true,true,true,true,true,true,true,true,true,true,true] [true,true,true,true,true,true,true,true,true,true,true] (2 * n + 2)) (E : EnP X.prog X.w X.K X.mg X.base ca n) : PSs X (defBody s11) (RBl ca (cn G n) b11) :=
 (b_cons (s_as (y_ix g (y_v g 0) (y_v g 1)) (g_tp g (g_cons (g_nm g 3) (g_cons (g_nm g 4) g_nil))))
 (b_cons (s_as (y_lst (a_cons (y_bin (o := .add) y_int (y_bin (o := .mod) (y_v g 2) (y_bin (o := .pow) y_int y_int))) (a_cons (y_bin (o := .add) y_int (y_call g E.c_9_0 (a_cons (y_v g 2) (a_cons y_int (a_cons y_int a_nil))))) (a_cons (y_bin (o := .sub) (y_bin (o := .pow) y_int y_int) (y_call g E.c_9_0 (a_cons (y_v g 2) (a_cons y_int (a_cons y_int a_nil))))) a_nil)))) (g_nm g 5))
 (b_cons (s_as (y_ix g (y_v g 5) (y_call g E.c_9_0 (a_cons (y_v g 2) (a_cons y_int (a_cons y_int a_nil))))) (g_nm g 6))
 (b_cons (s_as (y_tup (a_cons (y_call g E.c_9_0 (a_cons (y_v g 2) (a_cons y_int (a_cons (y_v g 3) a_nil)))) (a_cons (y_call g E.c_9_0 (a_cons (y_v g 2) (a_cons y_int (a_cons (y_v g 3) a_nil)))) (a_cons (y_v g 6) a_nil)))) (g_nm g 7))
 (b_cons (s_if (t_cm g (o := .lt) (y_call g E.c_9_0 (a_cons (y_v g 2) (a_cons y_int (a_cons y_int a_nil)))) y_int) (b_cons (s_ret (y_bin (o := .add) (y_bin (o := .add) (y_tup (a_cons y_str a_nil)) (y_v g 7)) (y_tup (a_cons (y_call g E.c_10_0 (a_cons (y_v g 2) (a_cons y_int (a_cons (y_v g 4) (a_cons (y_v g 4) a_nil))))) a_nil))))
  b_nil)
  b_nil)
 (b_cons (s_as (y_call g E.c_9_0 (a_cons (y_v g 2) (a_cons y_int (a_cons (f_len g E.b_len (a_cons (y_v g 0) a_nil)) a_nil)))) (g_nm g 8))
 (b_cons (s_as (y_call g E.c_10_0 (a_cons (y_v g 2) (a_cons y_int (a_cons (y_v g 4) (a_cons (y_ix g (y_ix g (y_v g 0) (y_v g 8)) y_int) a_nil))))) (g_nm g 9))
 (b_cons (s_as (y_call g E.c_10_0 (a_cons (y_v g 2) (a_cons y_int (a_cons (y_ix g (y_ix g (y_v g 0) (y_v g 8)) y_int) (a_cons (y_v g 4) a_nil))))) (g_nm g 10))
 (b_cons (s_ret (y_bin (o := .add) (y_bin (o := .add) (y_tup (a_cons y_str a_nil)) (y_v g 7)) (y_tup (a_cons (y_v g 8) (a_cons (y_v g 9) (a_cons (y_v g 10) (a_cons (y_call g E.c_10_0 (a_cons (y_v g 2) (a_cons y_int (a_cons (y_v g 4) (a_cons (y_v g 4) a_nil))))) a_nil)))))))
 b_nil)))))))))
theorem ok11 {P : Program} {w : World} {K : PySem.W.Frag} {mg : Str → Option Value} {base : Heap} {ca : Nat → Addr} {f : Addr} {fd : FuncData} {n : Nat} (F : Fun K "_law_edge" "_law_edge" s11 f fd) (E : EnP P w K mg base ca n) : FnOk P w K mg base CX0 (2 * n + 3) f fd ["_law_sizes", "_law_f", "_law_cell"] (spR ca (run G (n + 1)) 11 3) :=
  def_ok F sc_11 fs_11 G11 rfl rfl (by decide +kernel) (by decide +kernel) (by decide +kernel) fun X e1 e2 e3 e4 e5 g => body11 g (by rw [e1,e2,e3,e4,e5]; exact E)
def sc12 : Scope := { kind := .function,names := [("_law_cells",.local),("_law_way",.local),("_law_most",.local),("_law_sizes",.cell),("_law_f",.local),("_law_edges",.cell),("_law_k",.local),("_law_cell",.local),("int",.globalImplicit),("_law_pick",.globalImplicit),("range",.globalImplicit),("enumerate",.globalImplicit),("len",.globalImplicit),("_law_edge",.globalImplicit)],isGenerator := false,isCoroutine := false,more := [("fast",.str "_law_cells"),("fast",.str "_law_way"),("fast",.str "_law_most"),("fast",.str "_law_sizes"),("fast",.str "_law_f"),("fast",.str "_law_size"),("fast",.str "_law_edges"),("fast",.str "_law_k"),("fast",.str "_law_cell")] }
theorem sc_12 : defScope s12 = sc12 := rfl
theorem fs_12 : FnScope ["_law_cells", "_law_way", "_law_most", "_law_sizes", "_law_f", "_law_edges", "_law_k", "_law_cell", "_law_size"] ["_law_cells", "_law_way"] sc12 := ⟨rfl,rfl,rfl,by decide +kernel,rfl,by decide +kernel,by decide +kernel⟩
theorem body12 {X : Cx} {ca : Nat → Addr} {n : Nat} (g : Cg X ["_law_cells", "_law_way", "_law_most", "_law_sizes", "_law_f", "_law_edges", "_law_k", "_law_cell", "_law_size"] sc12 [true,true,true,true,true,true,true,true,false] [true,true,true,true,true,true,true,true,false] (2 * n + 2)) (E : EnP X.prog X.w X.K X.mg X.base ca n) : PSs X (defBody s12) (RBl ca (cn G n) b12) :=
 (b_cons (s_as (y_ix g (y_lst (a_cons (y_tup (a_cons y_int (a_cons y_int (a_cons y_int a_nil)))) (a_cons (y_tup (a_cons y_int (a_cons y_int (a_cons y_int a_nil)))) a_nil))) (f_int g E.b_int (a_cons (y_cm g (o := .eq) (y_call g E.c_9_0 (a_cons (y_v g 1) (a_cons y_int (a_cons y_int a_nil)))) y_int) a_nil))) (g_nm g 2))
 (b_cons (s_as (y_lst a_nil) (g_nm g 3))
 (b_cons (s_for g (i_r1 g E.b_range (y_bin (o := .add) y_int (y_call g E.c_9_0 (a_cons (y_v g 1) (a_cons y_int (a_cons (y_ix g (y_v g 2) y_int) a_nil)))))) (g_nm g 4) (b_cons (s_ex (m_append g (y_v g 3) (a_cons (y_tup (a_cons (y_bin (o := .add) y_int (y_call g E.c_9_0 (a_cons (y_v g 1) (a_cons (y_bin (o := .add) y_int (y_bin (o := .mul) y_int (y_v g 4))) (a_cons (y_ix g (y_v g 2) y_int) a_nil))))) (a_cons (y_bin (o := .add) y_int (y_call g E.c_9_0 (a_cons (y_v g 1) (a_cons (y_bin (o := .add) y_int (y_bin (o := .mul) y_int (y_v g 4))) (a_cons (y_ix g (y_v g 2) y_int) a_nil))))) a_nil))) a_nil)))
  b_nil))
 (b_cons (s_asC g (y_lc g (own := [("_law_size",8)]) { kind := .function,names := [(".0",.local),("_law_size",.local)],isGenerator := false,isCoroutine := false,more := [] } [false,false,false,false,false,false,false,false,true] [false,false,false,false,false,false,false,false,true] (by decide +kernel) (by decide +kernel) (by decide +kernel) (by decide +kernel) (by decide +kernel) (i_lst (y_v g 3))
 (fun Y e1 e2 e3 e4 e5 g1 => have E1 := E.to e1 e2 e3 e4 e5
  ⟨(g_nm g1 8),c_no,(y_lst a_nil)⟩)) (g_nm g 5))
 (b_cons (s_for g (i_en g E.b_enumerate (y_slc (y_v g 0) o_sk (o_e y_int))) (g_tp g (g_cons (g_nm g 6) (g_cons (g_nm g 7) g_nil))) (b_cons (s_as (y_call g E.c_9_0 (a_cons (y_v g 7) (a_cons y_int (a_cons (f_len g E.b_len (a_cons (y_v g 3) a_nil)) a_nil)))) (g_nm g 4))
  (b_cons (s_ex (m_append g (y_ix g (y_v g 5) (y_v g 4)) (a_cons (y_call g E.c_11_0 (a_cons (y_v g 3) (a_cons (y_v g 4) (a_cons (y_bin (o := .add) (y_v g 7) (y_bin (o := .mul) y_int (y_v g 6))) a_nil)))) a_nil)))
  b_nil)))
 (b_cons (s_ret (y_lc g (own := [("_law_f",4)]) { kind := .function,names := [(".0",.local),("_law_f",.local),("_law_edges",.cell),("_law_sizes",.cell)],isGenerator := false,isCoroutine := false,more := [] } [false,false,false,true,true,true,false,false,false] [false,false,false,false,true,false,false,false,false] (by decide +kernel) (by decide +kernel) (by decide +kernel) (by decide +kernel) (by decide +kernel) (i_r1 g E.b_range (f_len g E.b_len (a_cons (y_v g 3) a_nil)))
 (fun Y e1 e2 e3 e4 e5 g2 => have E2 := E.to e1 e2 e3 e4 e5
  ⟨(g_nm g2 4),c_no,(y_tup (a_cons (y_ix g2 (y_ix g2 (y_v g2 3) (y_v g2 4)) y_int) (a_cons (y_ix g2 (y_ix g2 (y_v g2 3) (y_v g2 4)) y_int) (a_cons (y_frz (y_ix g2 (y_v g2 5) (y_v g2 4))) a_nil))))⟩)))
 b_nil))))))
theorem ok12 {P : Program} {w : World} {K : PySem.W.Frag} {mg : Str → Option Value} {base : Heap} {ca : Nat → Addr} {f : Addr} {fd : FuncData} {n : Nat} (F : Fun K "_law_chart" "_law_chart" s12 f fd) (E : EnP P w K mg base ca n) : FnOk P w K mg base CX0 (2 * n + 3) f fd ["_law_cells", "_law_way"] (spR ca (run G (n + 1)) 12 2) :=
  def_ok F sc_12 fs_12 G12 rfl rfl (by decide +kernel) (by decide +kernel) (by decide +kernel) fun X e1 e2 e3 e4 e5 g => body12 g (by rw [e1,e2,e3,e4,e5]; exact E)
def sc13 : Scope := { kind := .function,names := [("_law_table_here",.local),("_law_cell",.local),("_law_facts",.local),("_law_at",.local),("_law_wrong_here",.local),("_law_pick",.globalImplicit),("len",.globalImplicit)],isGenerator := false,isCoroutine := false,more := [] }
theorem sc_13 : defScope s13 = sc13 := rfl
theorem fs_13 : FnScope ["_law_table_here", "_law_cell", "_law_facts", "_law_at", "_law_wrong_here"] ["_law_table_here", "_law_cell", "_law_facts"] sc13 := ⟨rfl,rfl,rfl,by decide +kernel,rfl,by decide +kernel,by decide +kernel⟩
theorem body13 {X : Cx} {ca : Nat → Addr} {n : Nat} (g : Cg X ["_law_table_here", "_law_cell", "_law_facts", "_law_at", "_law_wrong_here"] sc13 [true,true,true,true,true] [true,true,true,true,true] (2 * n + 2)) (E : EnP X.prog X.w X.K X.mg X.base ca n) : PSs X (defBody s13) (RBl ca (cn G n) b13) :=
 (b_cons (s_as (y_call g E.c_9_0 (a_cons (y_v g 1) (a_cons y_int (a_cons (f_len g E.b_len (a_cons (y_v g 0) a_nil)) a_nil)))) (g_nm g 3))
 (b_cons (s_as (y_ix g (y_lst (a_cons (y_bin (o := .shl) y_int (y_v g 2)) (a_cons (y_neg y_int) (a_cons (y_bin (o := .add) (y_bin (o := .shl) y_int (y_v g 2)) (y_bin (o := .mod) (y_v g 1) (y_bin (o := .pow) y_int y_int))) a_nil)))) (y_call g E.c_9_0 (a_cons (y_v g 1) (a_cons y_int (a_cons y_int a_nil))))) (g_nm g 4))
 (b_cons (s_ret (y_ix g (y_lst (a_cons (y_bin (o := .add) (y_bin (o := .add) (y_slc (y_v g 0) o_sk (o_e (y_v g 3))) (y_tup (a_cons (y_v g 4) a_nil))) (y_slc (y_v g 0) (o_e (y_bin (o := .add) (y_v g 3) y_int)) o_sk)) (a_cons (y_bin (o := .add) (y_v g 0) (y_tup (a_cons y_int a_nil))) (a_cons (y_slc (y_v g 0) o_sk (o_e (y_neg y_int))) a_nil)))) (y_call g E.c_9_0 (a_cons (y_v g 1) (a_cons y_int (a_cons y_int a_nil))))))
 b_nil)))
theorem ok13 {P : Program} {w : World} {K : PySem.W.Frag} {mg : Str → Option Value} {base : Heap} {ca : Nat → Addr} {f : Addr} {fd : FuncData} {n : Nat} (F : Fun K "_law_spoilt_mask" "_law_spoilt_mask" s13 f fd) (E : EnP P w K mg base ca n) : FnOk P w K mg base CX0 (2 * n + 3) f fd ["_law_table_here", "_law_cell", "_law_facts"] (spR ca (run G (n + 1)) 13 3) :=
  def_ok F sc_13 fs_13 G13 rfl rfl (by decide +kernel) (by decide +kernel) (by decide +kernel) fun X e1 e2 e3 e4 e5 g => body13 g (by rw [e1,e2,e3,e4,e5]; exact E)
def sc14 : Scope := { kind := .function,names := [("_law_chart_here",.local),("_law_f",.local),("_law_edge_here",.local),("_law_cell",.local),("_law_kind",.local),("_law_far",.local),("_law_at",.local),("_law_facts",.local),("_law_pick",.globalImplicit),("_law_spoilt_mask",.globalImplicit),("len",.globalImplicit)],isGenerator := false,isCoroutine := false,more := [] }
theorem sc_14 : defScope s14 = sc14 := rfl
theorem fs_14 : FnScope ["_law_chart_here", "_law_f", "_law_edge_here", "_law_cell", "_law_kind", "_law_far", "_law_at", "_law_facts"] ["_law_chart_here", "_law_f", "_law_edge_here", "_law_cell"] sc14 := ⟨rfl,rfl,rfl,by decide +kernel,rfl,by decide +kernel,by decide +kernel⟩
theorem body14 {X : Cx} {ca : Nat → Addr} {n : Nat} (g : Cg X ["_law_chart_here", "_law_f", "_law_edge_here", "_law_cell", "_law_kind", "_law_far", "_law_at", "_law_facts"] sc14 [true,true,true,true,true,true,true,true] [true,true,true,true,true,true,true,true] (2 * n + 2)) (E : EnP X.prog X.w X.K X.mg X.base ca n) : PSs X (defBody s14) (RBl ca (cn G n) b14) :=
 (b_cons (s_as (y_call g E.c_9_0 (a_cons (y_v g 3) (a_cons y_int (a_cons y_int a_nil)))) (g_nm g 4))
 (b_cons (s_as (y_bin (o := .mul) (y_bin (o := .mod) (y_bin (o := .fdiv) (y_v g 3) y_int) (y_bin (o := .pow) y_int y_int)) (y_call g E.c_9_0 (a_cons (y_v g 3) (a_cons y_int (a_cons y_int a_nil))))) (g_nm g 5))
 (b_cons (s_if (t_cm g (o := .eq) (y_v g 4) y_int) (b_cons (s_ret (y_bin (o := .add) (y_bin (o := .add) (y_slc (y_v g 2) o_sk (o_e y_int)) (y_tup (a_cons (y_ix g (y_lst (a_cons (y_bin (o := .add) (y_ix g (y_ix g (y_v g 0) (y_v g 1)) y_int) (y_v g 5)) (a_cons (y_neg y_int) a_nil))) (y_call g E.c_9_0 (a_cons (y_v g 3) (a_cons y_int (a_cons y_int a_nil))))) a_nil))) (y_slc (y_v g 2) (o_e y_int) o_sk)))
  b_nil)
  b_nil)
 (b_cons (s_if (t_cm g (o := .eq) (y_v g 4) y_int) (b_cons (s_ret (y_bin (o := .add) (y_bin (o := .add) (y_slc (y_v g 2) o_sk (o_e y_int)) (y_tup (a_cons (y_ix g (y_lst (a_cons (y_bin (o := .add) (y_ix g (y_ix g (y_v g 0) (y_v g 1)) y_int) (y_v g 5)) (a_cons (y_neg y_int) a_nil))) (y_call g E.c_9_0 (a_cons (y_v g 3) (a_cons y_int (a_cons y_int a_nil))))) a_nil))) (y_slc (y_v g 2) (o_e y_int) o_sk)))
  b_nil)
  b_nil)
 (b_cons (s_if (t_cm g (o := .eq) (y_v g 4) y_int) (b_cons (s_ret (y_bin (o := .add) (y_bin (o := .add) (y_slc (y_v g 2) o_sk (o_e y_int)) (y_tup (a_cons (y_ix g (y_lst (a_cons y_int (a_cons (y_bin (o := .add) (y_bin (o := .add) (y_bin (o := .pow) y_int y_int) y_int) (y_v g 5)) (a_cons (y_neg y_int) a_nil)))) (y_call g E.c_9_0 (a_cons (y_v g 3) (a_cons y_int (a_cons y_int a_nil))))) a_nil))) (y_slc (y_v g 2) (o_e y_int) o_sk)))
  b_nil)
  b_nil)
 (b_cons (s_if (t_cm g (o := .eq) (y_ix g (y_v g 2) y_int) y_str) (b_cons (s_ret (y_bin (o := .add) (y_slc (y_v g 2) o_sk (o_e y_int)) (y_tup (a_cons (y_call g E.c_13_0 (a_cons (y_ix g (y_v g 2) y_int) (a_cons (y_v g 3) (a_cons (y_ix g (y_ix g (y_v g 0) (y_v g 1)) y_int) a_nil)))) a_nil))))
  b_nil)
  b_nil)
 (b_cons (s_if (t_cm g (o := .eq) (y_v g 4) y_int) (b_cons (s_ret (y_bin (o := .add) (y_bin (o := .add) (y_slc (y_v g 2) o_sk (o_e y_int)) (y_tup (a_cons (y_ix g (y_lst (a_cons (y_bin (o := .add) (f_len g E.b_len (a_cons (y_v g 0) a_nil)) (y_v g 5)) (a_cons (y_neg y_int) a_nil))) (y_call g E.c_9_0 (a_cons (y_v g 3) (a_cons y_int (a_cons y_int a_nil))))) a_nil))) (y_slc (y_v g 2) (o_e y_int) o_sk)))
  b_nil)
  b_nil)
 (b_cons (s_as (y_bin (o := .add) y_int (y_call g E.c_9_0 (a_cons (y_v g 3) (a_cons y_int (a_cons y_int a_nil))))) (g_nm g 6))
 (b_cons (s_as (y_ix g (y_ix g (y_v g 0) (y_ix g (y_lst (a_cons (y_ix g (y_v g 2) y_int) (a_cons (y_v g 1) (a_cons (y_v g 1) a_nil)))) (y_bin (o := .sub) (y_v g 6) y_int))) y_int) (g_nm g 7))
 (b_cons (s_ret (y_bin (o := .add) (y_bin (o := .add) (y_slc (y_v g 2) o_sk (o_e (y_v g 6))) (y_tup (a_cons (y_call g E.c_13_0 (a_cons (y_ix g (y_v g 2) (y_v g 6)) (a_cons (y_v g 3) (a_cons (y_v g 7) a_nil)))) a_nil))) (y_slc (y_v g 2) (o_e (y_bin (o := .add) (y_v g 6) y_int)) o_sk)))
 b_nil))))))))))
theorem ok14 {P : Program} {w : World} {K : PySem.W.Frag} {mg : Str → Option Value} {base : Heap} {ca : Nat → Addr} {f : Addr} {fd : FuncData} {n : Nat} (F : Fun K "_law_spoilt_edge" "_law_spoilt_edge" s14 f fd) (E : EnP P w K mg base ca n) : FnOk P w K mg base CX0 (2 * n + 3) f fd ["_law_chart_here", "_law_f", "_law_edge_here", "_law_cell"] (spR ca (run G (n + 1)) 14 4) :=
  def_ok F sc_14 fs_14 G14 rfl rfl (by decide +kernel) (by decide +kernel) (by decide +kernel) fun X e1 e2 e3 e4 e5 g => body14 g (by rw [e1,e2,e3,e4,e5]; exact E)
def sc15 : Scope := { kind := .function,names := [("_law_chart_here",.local),("_law_cell",.local),("_law_spoilt",.local),("_law_f",.local),("_law_places",.local),("_law_facts",.local),("_law_edges",.local),("_law_far",.local),("_law_at",.local),("_law_pick",.globalImplicit),("len",.globalImplicit),("_law_spoilt_edge",.globalImplicit)],isGenerator := false,isCoroutine := false,more := [] }
theorem sc_15 : defScope s15 = sc15 := rfl
theorem fs_15 : FnScope ["_law_chart_here", "_law_cell", "_law_spoilt", "_law_f", "_law_places", "_law_facts", "_law_edges", "_law_far", "_law_at"] ["_law_chart_here", "_law_cell", "_law_spoilt"] sc15 := ⟨rfl,rfl,rfl,by decide +kernel,rfl,by decide +kernel,by decide +kernel⟩
theorem body15 {X : Cx} {ca : Nat → Addr} {n : Nat} (g : Cg X ["_law_chart_here", "_law_cell", "_law_spoilt", "_law_f", "_law_places", "_law_facts", "_law_edges", "_law_far", "_law_at"] sc15 [true,true,true,true,true,true,true,true,true] [true,true,true,true,true,true,true,true,true] (2 * n + 2)) (E : EnP X.prog X.w X.K X.mg X.base ca n) : PSs X (defBody s15) (RBl ca (cn G n) b15) :=
 (b_cons (s_as (y_call g E.c_9_0 (a_cons (y_v g 1) (a_cons y_int (a_cons (f_len g E.b_len (a_cons (y_v g 0) a_nil)) a_nil)))) (g_nm g 3))
 (b_cons (s_as (y_ix g (y_v g 0) (y_v g 3)) (g_tp g (g_cons (g_nm g 4) (g_cons (g_nm g 5) (g_cons (g_nm g 6) g_nil)))))
 (b_cons (s_if (t_w (w_or (t_cm g (o := .eq) (y_v g 6) (y_lst a_nil)) (w_or1 (t_cm g (o := .eq) (y_call g E.c_9_0 (a_cons (y_v g 1) (a_cons y_int (a_cons y_int a_nil)))) y_int)))) (b_cons (s_as (y_ix g (y_lst (a_cons y_int (a_cons (y_bin (o := .add) y_int (y_bin (o := .mod) (y_v g 1) (y_bin (o := .pow) y_int y_int))) (a_cons (y_neg y_int) (a_cons y_int a_nil))))) (y_call g E.c_9_0 (a_cons (y_v g 1) (a_cons y_int (a_cons y_int a_nil))))) (g_nm g 7))
  (b_cons (s_if (t_cm g (o := .eq) (y_call g E.c_9_0 (a_cons (y_v g 1) (a_cons y_int (a_cons y_int a_nil)))) y_int) (b_cons (s_seti g (y_tup (a_cons (y_v g 7) (a_cons (y_v g 5) (a_cons (y_v g 6) a_nil)))) (y_v g 0) (y_v g 3) (hpg := fun h => pg_sub (y_v g 0) (y_v g 3) h))
   b_nil)
   (b_cons (s_seti g (y_tup (a_cons (y_v g 4) (a_cons (y_ix g (y_lst (a_cons y_int (a_cons (y_bin (o := .add) y_int (y_bin (o := .mod) (y_v g 1) (y_bin (o := .pow) y_int y_int))) (a_cons (y_neg y_int) (a_cons y_int a_nil))))) (y_call g E.c_9_0 (a_cons (y_v g 1) (a_cons y_int (a_cons y_int a_nil))))) (a_cons (y_v g 6) a_nil)))) (y_v g 0) (y_v g 3) (hpg := fun h => pg_sub (y_v g 0) (y_v g 3) h))
   b_nil))
  (b_cons (s_ex (m_append g (y_v g 2) (a_cons (y_tup (a_cons (y_v g 3) (a_cons (y_neg y_int) a_nil))) a_nil)))
  (b_cons s_retN
  b_nil))))
  b_nil)
 (b_cons (s_as (y_call g E.c_9_0 (a_cons (y_v g 1) (a_cons y_int (a_cons (f_len g E.b_len (a_cons (y_v g 6) a_nil)) a_nil)))) (g_nm g 8))
 (b_cons (s_if (t_cm g (o := .notin) (y_tup (a_cons (y_v g 3) (a_cons (y_v g 8) a_nil))) (y_v g 2)) (b_cons (s_seti g (y_call g E.c_14_0 (a_cons (y_ix g (y_v g 2) y_int) (a_cons (y_v g 3) (a_cons (y_ix g (y_v g 6) (y_v g 8)) (a_cons (y_v g 1) a_nil))))) (y_v g 6) (y_v g 8) (hpg := fun h => pg_sub (y_v g 6) (y_v g 8) h))
  (b_cons (s_ex (m_append g (y_v g 2) (a_cons (y_tup (a_cons (y_v g 3) (a_cons (y_v g 8) a_nil))) a_nil)))
  b_nil))
  b_nil)
 b_nil)))))
theorem ok15 {P : Program} {w : World} {K : PySem.W.Frag} {mg : Str → Option Value} {base : Heap} {ca : Nat → Addr} {f : Addr} {fd : FuncData} {n : Nat} (F : Fun K "_law_wrong" "_law_wrong" s15 f fd) (E : EnP P w K mg base ca n) : FnOk P w K mg base CX0 (2 * n + 3) f fd ["_law_chart_here", "_law_cell", "_law_spoilt"] (spR ca (run G (n + 1)) 15 3) :=
  def_ok F sc_15 fs_15 G15 rfl rfl (by decide +kernel) (by decide +kernel) (by decide +kernel) fun X e1 e2 e3 e4 e5 g => body15 g (by rw [e1,e2,e3,e4,e5]; exact E)
def sc16 : Scope := { kind := .function,names := [("_law_chart_here",.local),("_law_due",.local),("e",.local),("_law_others",.local),("checked",.globalImplicit),("CallError",.globalImplicit),("isinstance",.globalImplicit),("NoName",.globalImplicit),("NoPaper",.globalImplicit),("NoTable",.globalImplicit),("NoText",.globalImplicit),("NoWay",.globalImplicit),("TooLong",.globalImplicit),("ValueError",.globalImplicit),("NoChart",.globalImplicit)],isGenerator := false,isCoroutine := false,more := [] }
theorem sc_16 : defScope s16 = sc16 := rfl
theorem fs_16 : FnScope ["_law_chart_here", "_law_due", "e", "_law_others"] ["_law_chart_here"] sc16 := ⟨rfl,rfl,rfl,by decide +kernel,rfl,by decide +kernel,by decide +kernel⟩
theorem body16 {X : Cx} {ca : Nat → Addr} {n : Nat} (g : Cg X ["_law_chart_here", "_law_due", "e", "_law_others"] sc16 [true,true,true,true] [true,true,true,true] (2 * n + 2)) (E : EnP X.prog X.w X.K X.mg X.base ca n) (hs : X.stack = X.env :: X.outer) (hf : X.env.frame = some X.env.locals) : PSs X (defBody s16) (RBl ca (cn G n) b16) :=
 (b_cons (s_as y_non (g_nm g 1))
 (b_cons (t_try g hs hf 2 E.xg_0 (all_C E.xm_4_0 all_0) (fun W pn xe tk hp => have t1 := g.tr pn xe; (x_cons (x_callE t1 tk E.cx_7 (a_cons (y_v t1 0) a_nil)) x_nil)) (fun a pn => have h1 := g.hot a pn; (b_cons (s_as (y_lst (a_cons (y_isx (glh_of h1 rfl) E.b_isinstance (h_v h1 2) (k_cls (glh_of h1 rfl) E.xg_3) rel_ref all_0 (all_C ⟨E.xc_4,E.xi_4_3⟩ all_0)) (a_cons (y_isx (glh_of h1 rfl) E.b_isinstance (h_v h1 2) (k_cls (glh_of h1 rfl) E.xg_6) rel_ref all_0 (all_C ⟨E.xc_4,E.xi_4_6⟩ all_0)) (a_cons (y_isx (glh_of h1 rfl) E.b_isinstance (h_v h1 2) (k_cls (glh_of h1 rfl) E.xg_1) rel_ref all_0 (all_C ⟨E.xc_4,E.xi_4_1⟩ all_0)) (a_cons (y_isx (glh_of h1 rfl) E.b_isinstance (h_v h1 2) (k_cls (glh_of h1 rfl) E.xg_7) rel_ref all_0 (all_C ⟨E.xc_4,E.xi_4_7⟩ all_0)) a_nil))))) (h_nm h1 3))
   (b_cons (s_as (y_bin (o := .add) (h_v h1 3) (y_lst (a_cons (y_isx (glh_of h1 rfl) E.b_isinstance (h_v h1 2) (k_cls (glh_of h1 rfl) E.xg_5) rel_ref all_0 (all_C ⟨E.xc_4,E.xi_4_5⟩ all_0)) (a_cons (y_isx (glh_of h1 rfl) E.b_isinstance (h_v h1 2) (k_cls (glh_of h1 rfl) E.xg_2) rel_ref all_0 (all_C ⟨E.xc_4,E.xi_4_2⟩ all_0)) (a_cons (y_not (y_isx (glh_of h1 rfl) E.b_isinstance (h_v h1 2) (k_VE (glh_of h1 rfl) E.b_ValueError) rel_ty (all_C ⟨E.xc_4,E.xi_4_V⟩ all_0) all_0)) a_nil))))) (h_nm h1 3))
   (b_cons (s_as (y_lst (a_cons (y_isx (glh_of h1 rfl) E.b_isinstance (h_v h1 2) (k_cls (glh_of h1 rfl) E.xg_4) rel_ref (all_C ⟨E.xc_4,E.xi_4_4⟩ all_0) all_0) (a_cons (h_cm h1 (o := .isin) y_bl (h_v h1 3)) (a_cons (h_v h1 2) a_nil)))) (h_nm h1 1))
   b_nil)))))
 (b_cons (s_if (t_w (w_or (t_cm g (o := .is) (y_v g 1) y_non) (w_or (t_cm g (o := .is) (y_ix g (y_v g 1) y_int) y_bl) (w_or1 (t_e (y_ix g (y_v g 1) y_int)))))) (b_cons (s_ret y_non)
  b_nil)
  b_nil)
 (b_cons (s_ret (y_tup (a_cons (y_xfld (y_ix g (y_v g 1) y_int) (all_C ⟨E.xf_4,E.xn_4_function⟩ all_0)) (a_cons (y_xfld (y_ix g (y_v g 1) y_int) (all_C ⟨E.xf_4,E.xn_4_edge⟩ all_0)) a_nil))))
 b_nil))))
theorem ok16 {P : Program} {w : World} {K : PySem.W.Frag} {mg : Str → Option Value} {base : Heap} {ca : Nat → Addr} {f : Addr} {fd : FuncData} {n : Nat} (F : Fun K "_law_refusal" "_law_refusal" s16 f fd) (E : EnP P w K mg base ca n) : FnOk P w K mg base CX0 (2 * n + 3) f fd ["_law_chart_here"] (spR ca (run G (n + 1)) 16 1) :=
  def_okT F sc_16 fs_16 G16 rfl rfl (by decide +kernel) (by decide +kernel) (by decide +kernel) fun X e1 e2 e3 e4 e5 hs hf g => body16 g (by rw [e1,e2,e3,e4,e5]; exact E) hs hf
def sc17 : Scope := { kind := .function,names := [("_law_chart_here",.local)],isGenerator := false,isCoroutine := false,more := [("fast",.str "_law_chart_here"),("fast",.str "_law_places"),("fast",.str "_law_facts"),("fast",.str "_law_edges")] }
theorem sc_17 : defScope s17 = sc17 := rfl
theorem fs_17 : FnScope ["_law_chart_here", "_law_places", "_law_facts", "_law_edges"] ["_law_chart_here"] sc17 := ⟨rfl,rfl,rfl,by decide +kernel,rfl,by decide +kernel,by decide +kernel⟩
theorem body17 {X : Cx} {ca : Nat → Addr} {n : Nat} (g : Cg X ["_law_chart_here", "_law_places", "_law_facts", "_law_edges"] sc17 [true,false,false,false] [true,false,false,false] (2 * n + 2)) (E : EnP X.prog X.w X.K X.mg X.base ca n) : PSs X (defBody s17) (RBl ca (cn G n) b17) :=
 (b_cons (s_ret (y_lc g (own := [("_law_places",1),("_law_facts",2),("_law_edges",3)]) { kind := .function,names := [(".0",.local),("_law_places",.local),("_law_facts",.local),("_law_edges",.local),("list",.globalImplicit)],isGenerator := false,isCoroutine := false,more := [] } [false,true,true,true] [false,true,true,true] (by decide +kernel) (by decide +kernel) (by decide +kernel) (by decide +kernel) (by decide +kernel) (i_lst (y_v g 0))
 (fun Y e1 e2 e3 e4 e5 g1 => have E1 := E.to e1 e2 e3 e4 e5
  ⟨(g_tp g1 (g_cons (g_nm g1 1) (g_cons (g_nm g1 2) (g_cons (g_nm g1 3) g_nil)))),c_no,(y_tup (a_cons (y_v g1 1) (a_cons (y_v g1 2) (a_cons (f_list g1 E1.b_list (a_cons (y_v g1 3) a_nil)) a_nil))))⟩)))
 b_nil)
theorem ok17 {P : Program} {w : World} {K : PySem.W.Frag} {mg : Str → Option Value} {base : Heap} {ca : Nat → Addr} {f : Addr} {fd : FuncData} {n : Nat} (F : Fun K "_law_copied" "_law_copied" s17 f fd) (E : EnP P w K mg base ca n) : FnOk P w K mg base CX0 (2 * n + 3) f fd ["_law_chart_here"] (spR ca (run G (n + 1)) 17 1) :=
  def_ok F sc_17 fs_17 G17 rfl rfl (by decide +kernel) (by decide +kernel) (by decide +kernel) fun X e1 e2 e3 e4 e5 g => body17 g (by rw [e1,e2,e3,e4,e5]; exact E)
def sc18 : Scope := { kind := .function,names := [("_law_chart_here",.local),("_law_cell",.local),("_law_full",.local),("_law_more",.local),("_law_function",.local),("_law_wrong_here",.local),("_law_count",.local),("_law_f",.local),("_law_number",.local),("_law_edge_here",.local),("_law_copied",.globalImplicit),("_law_pick",.globalImplicit),("len",.globalImplicit),("_law_refusal",.globalImplicit),("enumerate",.globalImplicit)],isGenerator := false,isCoroutine := false,more := [] }
theorem sc_18 : defScope s18 = sc18 := rfl
theorem fs_18 : FnScope ["_law_chart_here", "_law_cell", "_law_full", "_law_more", "_law_function", "_law_wrong_here", "_law_count", "_law_f", "_law_number", "_law_edge_here"] ["_law_chart_here", "_law_cell"] sc18 := ⟨rfl,rfl,rfl,by decide +kernel,rfl,by decide +kernel,by decide +kernel⟩
theorem body18 {X : Cx} {ca : Nat → Addr} {n : Nat} (g : Cg X ["_law_chart_here", "_law_cell", "_law_full", "_law_more", "_law_function", "_law_wrong_here", "_law_count", "_law_f", "_law_number", "_law_edge_here"] sc18 [true,true,true,true,true,true,true,true,true,true] [true,true,true,true,true,true,true,true,true,true] (2 * n + 2)) (E : EnP X.prog X.w X.K X.mg X.base ca n) : PSs X (defBody s18) (RBl ca (cn G n) b18) :=
 (b_cons (s_as (y_call g E.c_17_0 (a_cons (y_v g 0) a_nil)) (g_nm g 2))
 (b_cons (s_as (y_bin (o := .add) y_int (y_call g E.c_9_0 (a_cons (y_v g 1) (a_cons y_int (a_cons y_int a_nil))))) (g_nm g 3))
 (b_cons (s_for g (i_lst (y_v g 2)) (g_nm g 4) (b_cons (s_as (y_bin (o := .sub) (y_v g 3) (f_len g E.b_len (a_cons (y_ix g (y_v g 4) y_int) a_nil))) (g_nm g 3))
  b_nil))
 (b_cons (s_ex (m_extend g (y_ix g (y_ix g (y_v g 2) y_int) y_int) (a_cons (y_bin (o := .mul) (y_lst (a_cons (y_tup (a_cons y_str (a_cons y_int (a_cons y_int (a_cons y_int (a_cons (y_bin (o := .mul) (y_tup (a_cons y_int a_nil)) (y_ix g (y_ix g (y_v g 0) y_int) y_int)) a_nil)))))) a_nil)) (y_v g 3)) a_nil)))
 (b_cons (s_as (y_tup (a_cons y_str (a_cons y_int (a_cons y_int (a_cons y_int (a_cons (y_bin (o := .mul) (y_tup (a_cons y_int a_nil)) (y_ix g (y_ix g (y_v g 0) y_int) y_int)) a_nil)))))) (g_nm g 5))
 (b_cons (s_if (t_cm g (o := .eq) (y_call g E.c_9_0 (a_cons (y_v g 1) (a_cons y_int (a_cons y_int a_nil)))) y_int) (b_cons (s_ex (m_insert g (y_ix g (y_ix g (y_v g 2) y_int) y_int) (a_cons (y_call g E.c_9_0 (a_cons (y_v g 1) (a_cons y_int (a_cons (y_bin (o := .add) (f_len g E.b_len (a_cons (y_ix g (y_ix g (y_v g 2) y_int) y_int) a_nil)) y_int) a_nil)))) (a_cons (y_v g 5) a_nil))))
  b_nil)
  b_nil)
 (b_cons (s_as y_int (g_nm g 6))
 (b_cons (s_if (t_cm g (o := .eq) (y_call g E.c_9_0 (a_cons (y_v g 1) (a_cons y_int (a_cons y_int a_nil)))) y_int) (b_cons (s_as (y_call g E.c_9_0 (a_cons (y_v g 1) (a_cons y_int (a_cons (f_len g E.b_len (a_cons (y_v g 2) a_nil)) a_nil)))) (g_nm g 7))
  (b_cons (s_seti g (y_tup (a_cons y_int (a_cons (y_ix g (y_ix g (y_v g 2) (y_v g 7)) y_int) (a_cons (y_ix g (y_ix g (y_v g 2) (y_v g 7)) y_int) a_nil)))) (y_v g 2) (y_v g 7) (hpg := fun h => pg_sub (y_v g 2) (y_v g 7) h))
  (b_cons (s_ret (y_cm g (o := .eq) (y_call g E.c_16_0 (a_cons (y_v g 2) a_nil)) (y_tup (a_cons (y_v g 7) (a_cons (y_neg y_int) a_nil)))))
  b_nil)))
  b_nil)
 (b_cons (s_for g (i_en g E.b_enumerate (y_v g 2)) (g_tp g (g_cons (g_nm g 7) (g_cons (g_nm g 4) g_nil))) (b_cons (s_for g (i_en g E.b_enumerate (y_ix g (y_v g 4) y_int)) (g_tp g (g_cons (g_nm g 8) (g_cons (g_nm g 9) g_nil))) (b_cons (s_as (y_bin (o := .add) (y_v g 6) y_int) (g_nm g 6))
   (b_cons (s_if (t_w (w_or (t_cm g (o := .eq) (y_v g 6) y_int) (w_or1 (t_cm g (o := .eq) (y_v g 9) (y_v g 5))))) (b_cons (s_ret (y_cm g (o := .eq) (y_call g E.c_16_0 (a_cons (y_v g 2) a_nil)) (y_tup (a_cons (y_v g 7) (a_cons (y_v g 8) a_nil)))))
    b_nil)
    b_nil)
   b_nil)))
  b_nil))
 (b_cons (s_ret y_bl)
 b_nil))))))))))
theorem ok18 {P : Program} {w : World} {K : PySem.W.Frag} {mg : Str → Option Value} {base : Heap} {ca : Nat → Addr} {f : Addr} {fd : FuncData} {n : Nat} (F : Fun K "_law_too_many" "_law_too_many" s18 f fd) (E : EnP P w K mg base ca n) : FnOk P w K mg base CX0 (2 * n + 3) f fd ["_law_chart_here", "_law_cell"] (spR ca (run G (n + 1)) 18 2) :=
  def_ok F sc_18 fs_18 G18 rfl rfl (by decide +kernel) (by decide +kernel) (by decide +kernel) fun X e1 e2 e3 e4 e5 g => body18 g (by rw [e1,e2,e3,e4,e5]; exact E)
def sc19 : Scope := { kind := .function,names := [("_law_script",.local),("_law_way",.local),("_law_chart_here",.local),("_law_handed",.local),("_law_found",.local),("_law_function",.local),("_law_cell",.local),("_law_spoilt",.local),("_law_wrong_here",.local),("_law_sizes",.local),("_law_due",.local),("_law_cell_at",.globalImplicit),("_law_chart",.globalImplicit),("_law_copied",.globalImplicit),("checked",.globalImplicit),("isinstance",.globalImplicit),("list",.globalImplicit),("_law_refusal",.globalImplicit),("len",.globalImplicit),("_law_pick",.globalImplicit),("_law_too_many",.globalImplicit),("_law_wrong",.globalImplicit),("min",.globalImplicit)],isGenerator := false,isCoroutine := false,more := [("fast",.str "_law_script"),("fast",.str "_law_way"),("fast",.str "_law_chart_here"),("fast",.str "_law_handed"),("fast",.str "_law_found"),("fast",.str "_law_function"),("fast",.str "_law_cell"),("fast",.str "_law_spoilt"),("fast",.str "_law_wrong_here"),("fast",.str "_law_f"),("fast",.str "_law_at"),("fast",.str "_law_sizes"),("fast",.str "_law_due")] }
theorem sc_19 : defScope s19 = sc19 := rfl
theorem fs_19 : FnScope ["_law_script", "_law_way", "_law_chart_here", "_law_handed", "_law_found", "_law_function", "_law_cell", "_law_spoilt", "_law_wrong_here", "_law_sizes", "_law_due", "_law_f", "_law_at"] ["_law_script"] sc19 := ⟨rfl,rfl,rfl,by decide +kernel,rfl,by decide +kernel,by decide +kernel⟩
theorem body19 {X : Cx} {ca : Nat → Addr} {n : Nat} (g : Cg X ["_law_script", "_law_way", "_law_chart_here", "_law_handed", "_law_found", "_law_function", "_law_cell", "_law_spoilt", "_law_wrong_here", "_law_sizes", "_law_due", "_law_f", "_law_at"] sc19 [true,true,true,true,true,true,true,true,true,true,true,false,false] [true,true,true,true,true,true,true,true,true,true,true,false,false] (2 * n + 2)) (E : EnP X.prog X.w X.K X.mg X.base ca n) : PSs X (defBody s19) (RBl ca (cn G n) b19) :=
 (b_cons (s_as (y_call g E.c_8_0 (a_cons (y_v g 0) (a_cons y_int a_nil))) (g_nm g 1))
 (b_cons (s_as (y_call g E.c_12_0 (a_cons (y_slc (y_v g 0) (o_e y_int) o_sk) (a_cons (y_v g 1) a_nil))) (g_nm g 2))
 (b_cons (s_as (y_call g E.c_17_0 (a_cons (y_v g 2) a_nil)) (g_nm g 3))
 (b_cons (s_as (y_call g E.c_7_0 (a_cons (y_v g 3) a_nil)) (g_nm g 4))
 (b_cons (s_if (t_w (w_or (t_not (t_e (f_islist g E.b_isinstance E.b_list (y_v g 4)))) (w_or (t_cm g (o := .ne) (y_v g 4) (y_v g 2)) (w_or1 (t_cm g (o := .ne) (y_v g 3) (y_v g 2)))))) (b_cons (s_ret y_bl)
  b_nil)
  b_nil)
 (b_cons (s_for g (i_lst (y_v g 4)) (g_nm g 5) (b_cons (s_ex (m_append g (y_ix g (y_v g 5) y_int) (a_cons y_int a_nil)))
  b_nil))
 (b_cons (s_ex (m_append g (y_v g 4) (a_cons y_int a_nil)))
 (b_cons (s_as (y_call g E.c_8_0 (a_cons (y_v g 0) (a_cons y_int a_nil))) (g_nm g 6))
 (b_cons (s_if (t_w (w_or (t_cm g (o := .ne) (y_v g 3) (y_v g 2)) (w_or (t_cm g (o := .ne) (y_call g E.c_16_0 (a_cons (y_lst a_nil) a_nil)) (y_tup (a_cons (y_neg y_int) (a_cons (y_neg y_int) a_nil)))) (w_or1 (t_cm g (o := .ne) (y_call g E.c_16_0 (a_cons (y_slc (y_bin (o := .mul) (y_v g 3) y_int) o_sk (o_e y_int)) a_nil)) (y_tup (a_cons (y_neg y_int) (a_cons (y_neg y_int) a_nil)))))))) (b_cons (s_ret y_bl)
  b_nil)
  b_nil)
 (b_cons (s_if (t_w (w_or (t_cm g (o := .lt) (f_len g E.b_len (a_cons (y_bin (o := .mul) (y_v g 3) y_int) a_nil)) y_int) (w_or1 (t_cm g (o := .eq) (y_call g E.c_9_0 (a_cons (y_v g 6) (a_cons y_int (a_cons y_int a_nil)))) y_int)))) (b_cons (s_ret y_bl)
  b_nil)
  b_nil)
 (b_cons (s_if (t_not (t_e (y_call g E.c_18_0 (a_cons (y_v g 2) (a_cons (y_v g 6) a_nil))))) (b_cons (s_ret y_bl)
  b_nil)
  b_nil)
 (b_cons (s_as (y_lst (a_cons (y_v g 2) a_nil)) (g_nm g 7))
 (b_cons (s_as (y_call g E.c_17_0 (a_cons (y_v g 2) a_nil)) (g_nm g 8))
 (b_cons (s_ex (y_call g E.c_15_0 (a_cons (y_v g 8) (a_cons (y_v g 6) (a_cons (y_v g 7) a_nil)))))
 (b_cons (s_if (t_cm g (o := .eq) (y_call g E.c_9_0 (a_cons (y_v g 6) (a_cons y_int (a_cons y_int a_nil)))) y_int) (b_cons (s_ex (y_call g E.c_15_0 (a_cons (y_v g 8) (a_cons (y_call g E.c_8_0 (a_cons (y_v g 0) (a_cons y_int a_nil))) (a_cons (y_v g 7) a_nil)))))
  b_nil)
  b_nil)
 (b_cons (s_lcA g 9 (own := [("_law_f",11),("_law_at",12)]) { kind := .function,names := [(".0",.local),("_law_f",.local),("_law_at",.local)],isGenerator := false,isCoroutine := false,more := [] } [false,false,false,false,false,false,false,false,false,false,false,true,true] [false,false,false,false,false,false,false,false,false,false,false,true,true] (by decide +kernel) (by decide +kernel) (by decide +kernel) (by decide +kernel) (by decide +kernel) (i_lst (y_slc (y_v g 7) (o_e y_int) o_sk))
 (fun Y e1 e2 e3 e4 e5 g1 => have E1 := E.to e1 e2 e3 e4 e5
  ⟨(g_tp g1 (g_cons (g_nm g1 11) (g_cons (g_nm g1 12) g_nil))),(c_if (t_cm g1 (o := .eq) (y_v g1 12) (y_neg y_int))),(y_v g1 11)⟩))
 (b_cons (s_as (f_min1P g E.b_min (a_cons (y_slc (y_v g 7) (o_e y_int) o_sk) a_nil)) (g_nm g 10))
 (b_cons (s_if (t_cm g (o := .ne) (y_v g 9) (y_lst a_nil)) (b_cons (s_as (y_tup (a_cons (f_min1 g E.b_min (a_cons (y_v g 9) a_nil)) (a_cons (y_neg y_int) a_nil))) (g_nm g 10))
  b_nil)
  b_nil)
 (b_cons (s_ret (y_and (y_cm g (o := .eq) (y_call g E.c_16_0 (a_cons (y_v g 8) a_nil)) (y_v g 10)) (y_one (y_cm g (o := .eq) (y_call g E.c_7_0 (a_cons (y_v g 3) a_nil)) (y_v g 2)))))
 b_nil)))))))))))))))))))
theorem ok19 {P : Program} {w : World} {K : PySem.W.Frag} {mg : Str → Option Value} {base : Heap} {ca : Nat → Addr} {f : Addr} {fd : FuncData} {n : Nat} (F : Fun K "law" "law" s19 f fd) (E : EnP P w K mg base ca n) : FnOk P w K mg base CX0 (2 * n + 3) f fd ["_law_script"] (spR ca (run G (n + 1)) 19 1) :=
  def_ok F sc_19 fs_19 G19 rfl rfl (by decide +kernel) (by decide +kernel) (by decide +kernel) fun X e1 e2 e3 e4 e5 g => body19 g (by rw [e1,e2,e3,e4,e5]; exact E)
abbrev s1 : Stmt := (inClass (top 5) 0)
def sc1 : Scope := { kind := .function,names := [("self",.local),("function",.local),("edge",.local),("CallError",.globalImplicit)],isGenerator := false,isCoroutine := false,more := [] }
theorem sc_1 : defScope s1 = sc1 := rfl
theorem fs_1 : FnScope ["self", "function", "edge"] ["self", "function", "edge"] sc1 := ⟨rfl,rfl,rfl,by decide +kernel,rfl,by decide +kernel,by decide +kernel⟩
theorem ini1 {P : Program} {w : World} {K : PySem.W.Frag} {mg : Str → Option Value} {base : Heap} {f C C0 : Addr} {fd : FuncData} (F : Fun K "__init__" "NoChart.__init__" s1 f fd) (T : OexC K C) (hf0 : PySem.W.findIn K (.ref C) "function" = some none) (hf1 : PySem.W.findIn K (.ref C) "edge" = some none) (xb : mg "CallError" = some (.ref C0)) (rd : PySem.W.readsIn K C0 (.type "type") = true) (ga : PySem.W.specialIn K (.ref C0) "__getattribute__" = some (some (.builtin "type.__getattribute__"))) (vV : PySem.W.findCls K (.ref C0) (.type "type") "__init__" = some (.val (.builtin "ValueError.__init__"))) : FnOk P w K mg base CX0 1 f fd ["self", "function", "edge"] (spI K C ["function", "edge"]) :=
  ini_ok2 F sc_1 fs_1 T hf0 hf1 fun X e1 e2 e3 e4 e5 eN es => pss_cons (ps_expr (pe_cinit (C0 := C0) (mc := .type "type") (by show X.env.scope.names.lookup _ = _; rw [es]; rfl) (by rw [e4]; exact xb) (by rw [e3]; exact rd) (by rw [e3]; exact ga) (by rw [e3]; exact vV) (pa_cons (pe_var (i := 0) (by rw [eN]; rfl) (by rw [es]; exact .inl rfl)) (pa_cons pe_str pa_nil)))) (pss_cons (ps_ost (pe_var (i := 0) (by rw [eN]; rfl) (by rw [es]; exact .inl rfl)) (pe_var (i := 1) (by rw [eN]; rfl) (by rw [es]; exact .inl rfl))) (pss_cons (ps_ost (pe_var (i := 0) (by rw [eN]; rfl) (by rw [es]; exact .inl rfl)) (pe_var (i := 2) (by rw [eN]; rfl) (by rw [es]; exact .inl rfl))) pss_nil))
end Lk21
namespace Lk21
open PySem PySem.Spec PyProof.Rows L2 Y
theorem all_mk {l : PySem.W.OpenLaw} {w : World} {K : PySem.W.Frag} {h : Heap} {mg : Str → Option Value} {fa f19 f5 f6 f7 f8 f9 f10 f11 f12 f13 f14 f15 f16 f17 f18 C0 C1 C2 C3 C4 C5 C6 C7 : Addr} (X : K.In h) (G' : h.Ns mainGlobals mg) (hfa : mg "law" = some (.ref fa))
    {od5 an5 : Option Addr} {sl5 : Array (Option Value)} {oc5 kV5 dc5 pm5 cd5 ct5 : Value} {od6 an6 : Option Addr} {sl6 : Array (Option Value)} {oc6 kV6 dc6 pm6 cd6 ct6 : Value} {od7 an7 : Option Addr} {sl7 : Array (Option Value)} {oc7 kV7 dc7 pm7 cd7 ct7 : Value} {od8 an8 : Option Addr} {sl8 : Array (Option Value)} {oc8 kV8 dc8 pm8 cd8 ct8 : Value} {od9 an9 : Option Addr} {sl9 : Array (Option Value)} {oc9 kV9 dc9 pm9 cd9 ct9 : Value} {od10 an10 : Option Addr} {sl10 : Array (Option Value)} {oc10 kV10 dc10 pm10 cd10 ct10 : Value} {od11 an11 : Option Addr} {sl11 : Array (Option Value)} {oc11 kV11 dc11 pm11 cd11 ct11 : Value} {od12 an12 : Option Addr} {sl12 : Array (Option Value)} {oc12 kV12 dc12 pm12 cd12 ct12 : Value} {od13 an13 : Option Addr} {sl13 : Array (Option Value)} {oc13 kV13 dc13 pm13 cd13 ct13 : Value} {od14 an14 : Option Addr} {sl14 : Array (Option Value)} {oc14 kV14 dc14 pm14 cd14 ct14 : Value} {od15 an15 : Option Addr} {sl15 : Array (Option Value)} {oc15 kV15 dc15 pm15 cd15 ct15 : Value} {od16 an16 : Option Addr} {sl16 : Array (Option Value)} {oc16 kV16 dc16 pm16 cd16 ct16 : Value} {od17 an17 : Option Addr} {sl17 : Array (Option Value)} {oc17 kV17 dc17 pm17 cd17 ct17 : Value} {od18 an18 : Option Addr} {sl18 : Array (Option Value)} {oc18 kV18 dc18 pm18 cd18 ct18 : Value} {od19 an19 : Option Addr} {sl19 : Array (Option Value)} {oc19 kV19 dc19 pm19 cd19 ct19 : Value} {nm4 qn4 : Str} {NA4 f1 : Addr} {bs4 bm4 su4 : List Value} {sn4 : List Str} {ab4 : Bool} {co4 : Option Bool} {dd4 : Option Addr} {e04 e14 e24 e34 e54 : Option Value} {od1 an1 : Option Addr} {sl1 : Array (Option Value)} {oc1 kV1 dc1 pm1 cd1 ct1 : Value} {tk4 : Tok} {tk3 : Tok} {tk0 : Tok} {tk1 : Tok} {tk2 : Tok}
    (a5 : PySem.W.nsIn K mainGlobals "is_table" = some (some (.ref f5)))
    (l5 : K.lookup f5 = some ⟨oc5,od5,.func (PySem.W.fnOf "is_table" "is_table" (defArgs s5) (defBody s5) (defScope s5) .none kV5 dc5 pm5 an5 cd5 ct5),sl5⟩)
    (c5 : PySem.W.codeIn K cd5 "is_table" = true)
    (k5 : PySem.W.keepIn K (.ref f5) = true)
    (a6 : PySem.W.nsIn K mainGlobals "is_edge" = some (some (.ref f6)))
    (l6 : K.lookup f6 = some ⟨oc6,od6,.func (PySem.W.fnOf "is_edge" "is_edge" (defArgs s6) (defBody s6) (defScope s6) .none kV6 dc6 pm6 an6 cd6 ct6),sl6⟩)
    (c6 : PySem.W.codeIn K cd6 "is_edge" = true)
    (k6 : PySem.W.keepIn K (.ref f6) = true)
    (a7 : PySem.W.nsIn K mainGlobals "checked" = some (some (.ref f7)))
    (l7 : K.lookup f7 = some ⟨oc7,od7,.func (PySem.W.fnOf "checked" "checked" (defArgs s7) (defBody s7) (defScope s7) .none kV7 dc7 pm7 an7 cd7 ct7),sl7⟩)
    (c7 : PySem.W.codeIn K cd7 "checked" = true)
    (k7 : PySem.W.keepIn K (.ref f7) = true)
    (a8 : PySem.W.nsIn K mainGlobals "_law_cell_at" = some (some (.ref f8)))
    (l8 : K.lookup f8 = some ⟨oc8,od8,.func (PySem.W.fnOf "_law_cell_at" "_law_cell_at" (defArgs s8) (defBody s8) (defScope s8) .none kV8 dc8 pm8 an8 cd8 ct8),sl8⟩)
    (c8 : PySem.W.codeIn K cd8 "_law_cell_at" = true)
    (k8 : PySem.W.keepIn K (.ref f8) = true)
    (a9 : PySem.W.nsIn K mainGlobals "_law_pick" = some (some (.ref f9)))
    (l9 : K.lookup f9 = some ⟨oc9,od9,.func (PySem.W.fnOf "_law_pick" "_law_pick" (defArgs s9) (defBody s9) (defScope s9) .none kV9 dc9 pm9 an9 cd9 ct9),sl9⟩)
    (c9 : PySem.W.codeIn K cd9 "_law_pick" = true)
    (k9 : PySem.W.keepIn K (.ref f9) = true)
    (a10 : PySem.W.nsIn K mainGlobals "_law_table" = some (some (.ref f10)))
    (l10 : K.lookup f10 = some ⟨oc10,od10,.func (PySem.W.fnOf "_law_table" "_law_table" (defArgs s10) (defBody s10) (defScope s10) .none kV10 dc10 pm10 an10 cd10 ct10),sl10⟩)
    (c10 : PySem.W.codeIn K cd10 "_law_table" = true)
    (k10 : PySem.W.keepIn K (.ref f10) = true)
    (a11 : PySem.W.nsIn K mainGlobals "_law_edge" = some (some (.ref f11)))
    (l11 : K.lookup f11 = some ⟨oc11,od11,.func (PySem.W.fnOf "_law_edge" "_law_edge" (defArgs s11) (defBody s11) (defScope s11) .none kV11 dc11 pm11 an11 cd11 ct11),sl11⟩)
    (c11 : PySem.W.codeIn K cd11 "_law_edge" = true)
    (k11 : PySem.W.keepIn K (.ref f11) = true)
    (a12 : PySem.W.nsIn K mainGlobals "_law_chart" = some (some (.ref f12)))
    (l12 : K.lookup f12 = some ⟨oc12,od12,.func (PySem.W.fnOf "_law_chart" "_law_chart" (defArgs s12) (defBody s12) (defScope s12) .none kV12 dc12 pm12 an12 cd12 ct12),sl12⟩)
    (c12 : PySem.W.codeIn K cd12 "_law_chart" = true)
    (k12 : PySem.W.keepIn K (.ref f12) = true)
    (a13 : PySem.W.nsIn K mainGlobals "_law_spoilt_mask" = some (some (.ref f13)))
    (l13 : K.lookup f13 = some ⟨oc13,od13,.func (PySem.W.fnOf "_law_spoilt_mask" "_law_spoilt_mask" (defArgs s13) (defBody s13) (defScope s13) .none kV13 dc13 pm13 an13 cd13 ct13),sl13⟩)
    (c13 : PySem.W.codeIn K cd13 "_law_spoilt_mask" = true)
    (k13 : PySem.W.keepIn K (.ref f13) = true)
    (a14 : PySem.W.nsIn K mainGlobals "_law_spoilt_edge" = some (some (.ref f14)))
    (l14 : K.lookup f14 = some ⟨oc14,od14,.func (PySem.W.fnOf "_law_spoilt_edge" "_law_spoilt_edge" (defArgs s14) (defBody s14) (defScope s14) .none kV14 dc14 pm14 an14 cd14 ct14),sl14⟩)
    (c14 : PySem.W.codeIn K cd14 "_law_spoilt_edge" = true)
    (k14 : PySem.W.keepIn K (.ref f14) = true)
    (a15 : PySem.W.nsIn K mainGlobals "_law_wrong" = some (some (.ref f15)))
    (l15 : K.lookup f15 = some ⟨oc15,od15,.func (PySem.W.fnOf "_law_wrong" "_law_wrong" (defArgs s15) (defBody s15) (defScope s15) .none kV15 dc15 pm15 an15 cd15 ct15),sl15⟩)
    (c15 : PySem.W.codeIn K cd15 "_law_wrong" = true)
    (k15 : PySem.W.keepIn K (.ref f15) = true)
    (a16 : PySem.W.nsIn K mainGlobals "_law_refusal" = some (some (.ref f16)))
    (l16 : K.lookup f16 = some ⟨oc16,od16,.func (PySem.W.fnOf "_law_refusal" "_law_refusal" (defArgs s16) (defBody s16) (defScope s16) .none kV16 dc16 pm16 an16 cd16 ct16),sl16⟩)
    (c16 : PySem.W.codeIn K cd16 "_law_refusal" = true)
    (k16 : PySem.W.keepIn K (.ref f16) = true)
    (a17 : PySem.W.nsIn K mainGlobals "_law_copied" = some (some (.ref f17)))
    (l17 : K.lookup f17 = some ⟨oc17,od17,.func (PySem.W.fnOf "_law_copied" "_law_copied" (defArgs s17) (defBody s17) (defScope s17) .none kV17 dc17 pm17 an17 cd17 ct17),sl17⟩)
    (c17 : PySem.W.codeIn K cd17 "_law_copied" = true)
    (k17 : PySem.W.keepIn K (.ref f17) = true)
    (a18 : PySem.W.nsIn K mainGlobals "_law_too_many" = some (some (.ref f18)))
    (l18 : K.lookup f18 = some ⟨oc18,od18,.func (PySem.W.fnOf "_law_too_many" "_law_too_many" (defArgs s18) (defBody s18) (defScope s18) .none kV18 dc18 pm18 an18 cd18 ct18),sl18⟩)
    (c18 : PySem.W.codeIn K cd18 "_law_too_many" = true)
    (k18 : PySem.W.keepIn K (.ref f18) = true)
    (a19 : PySem.W.nsIn K mainGlobals "law" = some (some (.ref f19)))
    (l19 : K.lookup f19 = some ⟨oc19,od19,.func (PySem.W.fnOf "law" "law" (defArgs s19) (defBody s19) (defScope s19) .none kV19 dc19 pm19 an19 cd19 ct19),sl19⟩)
    (c19 : PySem.W.codeIn K cd19 "law" = true)
    (k19 : PySem.W.keepIn K (.ref f19) = true)
    (aC0 : PySem.W.nsIn K mainGlobals "CallError" = some (some (.ref C0)))
    (aC4 : PySem.W.nsIn K mainGlobals "NoChart" = some (some (.ref C4)))
    (aC3 : PySem.W.nsIn K mainGlobals "NoName" = some (some (.ref C3)))
    (aC6 : PySem.W.nsIn K mainGlobals "NoPaper" = some (some (.ref C6)))
    (aC1 : PySem.W.nsIn K mainGlobals "NoTable" = some (some (.ref C1)))
    (aC7 : PySem.W.nsIn K mainGlobals "NoText" = some (some (.ref C7)))
    (aC5 : PySem.W.nsIn K mainGlobals "NoWay" = some (some (.ref C5)))
    (aC2 : PySem.W.nsIn K mainGlobals "TooLong" = some (some (.ref C2)))
    (xx_n : PySem.W.specialIn K (.builtin "object.__class__") "__get__" = some (some (.builtin "getset_descriptor.__get__")))
    (xx_t : PySem.W.takesIn K (.builtin "object.__class__") = some true)
    (xg4_a : PySem.W.findIn K (.ref C4) "__getattribute__" = some (some (.builtin "BaseException.__getattribute__")))
    (xg4_b : PySem.W.findIn K (.ref C4) "__getattr__" = some none)
    (xg4_d : PySem.W.hasDictIn K C4 = true)
    (xg4_e : PySem.W.findIn K (.ref C4) "__class__" = some (some (.builtin "object.__class__")))
    (xg4_f : PySem.W.mroIn K C4 (.type "object") = some true)
    (xs4 : PySem.W.subIn K (.ref C4) (.type "BaseException") = some true)
    (xt4 : PySem.W.typeIn K (.ref C4) = some (.type "type"))
    (xk4 : PySem.W.keepIn K (.ref C4) = true)
    (xrd0 : PySem.W.readsIn K C0 (.type "type") = true)
    (xga0 : PySem.W.specialIn K (.ref C0) "__getattribute__" = some (some (.builtin "type.__getattribute__")))
    (xvV0 : PySem.W.findCls K (.ref C0) (.type "type") "__init__" = some (.val (.builtin "ValueError.__init__")))
    (xo4 : K.lookup C4 = some (excClassObj nm4 qn4 C4 NA4 bs4 bm4 true sn4 su4 ab4 co4 dd4 e04 e14 e24 e34 e54 "ValueError.__new__"))
    (xv4 : PySem.HandSPX.refsVE bm4 = true)
    (xa4 : PySem.W.findIn K (.ref C4) "__setattr__" = some (some (.builtin "object.__setattr__")))
    (a1 : PySem.W.findIn K (.ref C4) "__init__" = some (some (.ref f1)))
    (ti1 : PySem.W.typeIn K (.ref f1) = some (.type "function"))
    (l1 : K.lookup f1 = some ⟨oc1,od1,.func (PySem.W.fnOf "__init__" "NoChart.__init__" (defArgs s1) (defBody s1) (defScope s1) .none kV1 dc1 pm1 an1 cd1 ct1),sl1⟩)
    (c1 : PySem.W.codeIn K cd1 "NoChart.__init__" = true)
    (k1 : PySem.W.keepIn K (.ref f1) = true)
    (su_4_0 : PySem.W.subIn K (.ref C4) (.ref C0) = some true)
    (xg0_d : PySem.W.hasDictIn K C0 = true)
    (xt0 : PySem.W.typeIn K (.ref C0) = some (.type "type"))
    (xs0 : PySem.W.subIn K (.ref C0) (.type "BaseException") = some true)
    (su_4_3 : PySem.W.subIn K (.ref C4) (.ref C3) = some false)
    (xg3_d : PySem.W.hasDictIn K C3 = true)
    (xt3 : PySem.W.typeIn K (.ref C3) = some (.type "type"))
    (su_4_4 : PySem.W.subIn K (.ref C4) (.ref C4) = some true)
    (su_4_6 : PySem.W.subIn K (.ref C4) (.ref C6) = some false)
    (xg6_d : PySem.W.hasDictIn K C6 = true)
    (xt6 : PySem.W.typeIn K (.ref C6) = some (.type "type"))
    (su_4_1 : PySem.W.subIn K (.ref C4) (.ref C1) = some false)
    (xg1_d : PySem.W.hasDictIn K C1 = true)
    (xt1 : PySem.W.typeIn K (.ref C1) = some (.type "type"))
    (su_4_7 : PySem.W.subIn K (.ref C4) (.ref C7) = some false)
    (xg7_d : PySem.W.hasDictIn K C7 = true)
    (xt7 : PySem.W.typeIn K (.ref C7) = some (.type "type"))
    (su_4_5 : PySem.W.subIn K (.ref C4) (.ref C5) = some false)
    (xg5_d : PySem.W.hasDictIn K C5 = true)
    (xt5 : PySem.W.typeIn K (.ref C5) = some (.type "type"))
    (su_4_2 : PySem.W.subIn K (.ref C4) (.ref C2) = some false)
    (xg2_d : PySem.W.hasDictIn K C2 = true)
    (xt2 : PySem.W.typeIn K (.ref C2) = some (.type "type"))
    (su_4_V : PySem.W.subIn K (.ref C4) (.type "ValueError") = some true)
    (xn_4_edge : PySem.W.findIn K (.ref C4) "edge" = some none)
    (xn_4_function : PySem.W.findIn K (.ref C4) "function" = some none)
    (z_ValueError : PySem.W.nsIn K mainGlobals "ValueError" = some none)
    (z_enumerate : PySem.W.nsIn K mainGlobals "enumerate" = some none)
    (z_int : PySem.W.nsIn K mainGlobals "int" = some none)
    (z_isinstance : PySem.W.nsIn K mainGlobals "isinstance" = some none)
    (z_len : PySem.W.nsIn K mainGlobals "len" = some none)
    (z_list : PySem.W.nsIn K mainGlobals "list" = some none)
    (z_min : PySem.W.nsIn K mainGlobals "min" = some none)
    (z_range : PySem.W.nsIn K mainGlobals "range" = some none)
    (z_tuple : PySem.W.nsIn K mainGlobals "tuple" = some none)
    (gk4 : PySem.W.nsIn K mainGlobals "MOST_COST" = some (some (.int 1000000000000000000 tk4)))
    (gk3 : PySem.W.nsIn K mainGlobals "MOST_EDGES" = some (some (.int 24 tk3)))
    (gk0 : PySem.W.nsIn K mainGlobals "MOST_FACTS" = some (some (.int 6 tk0)))
    (gk1 : PySem.W.nsIn K mainGlobals "MOST_FUNCTIONS" = some (some (.int 6 tk1)))
    (gk2 : PySem.W.nsIn K mainGlobals "MOST_PLACES" = some (some (.int 10 tk2)))
    (nl : NoL K) (hq : ∀ ns : List Int,ns.length ≤ 63 → ∃ T,run G 40 [] 19 [.d (.list (ns.map .int))] [] = .ok (.d (.bool true)) T) :
    ∃ fd : FuncData,(∀ (s : Shared) (v : Value),BindsTo s fd ⟨[v],[]⟩ [("_law_script",v)]) ∧ ∀ base : Heap,K.In base → base.Ns mainGlobals mg → FnOk l.prog w K mg base CX0 81 fa fd ["_law_script"] (fun vs H Q _ => ∃ (a : Addr) (ns : List Int),vs = [.ref a] ∧ SqL K H a (ns.map V.int) ∧ ns.length ≤ 63 ∧ ∀ H',Q (.bl true) H') := by
  have e := hfa.symm.trans (PySem.W.mg_of X G' a19)
  cases e
  have F5 := fun_mk (st := s5) l5 c5 k5
  have bd5 := F5.binds (ps := ["table", "many", "facts"]) fun _ _ _ _ _ _ us hl => match us,hl with | [_,_,_],_ => rfl
  have F6 := fun_mk (st := s6) l6 c6 k6
  have bd6 := F6.binds (ps := ["chart", "f", "edge"]) fun _ _ _ _ _ _ us hl => match us,hl with | [_,_,_],_ => rfl
  have F7 := fun_mk (st := s7) l7 c7 k7
  have bd7 := F7.binds (ps := ["chart"]) fun _ _ _ _ _ _ us hl => match us,hl with | [_],_ => rfl
  have F8 := fun_mk (st := s8) l8 c8 k8
  have bd8 := F8.binds (ps := ["_law_script", "_law_k"]) fun _ _ _ _ _ _ us hl => match us,hl with | [_,_],_ => rfl
  have F9 := fun_mk (st := s9) l9 c9 k9
  have bd9 := F9.binds (ps := ["_law_cell", "_law_k", "_law_many"]) fun _ _ _ _ _ _ us hl => match us,hl with | [_,_,_],_ => rfl
  have F10 := fun_mk (st := s10) l10 c10 k10
  have bd10 := F10.binds (ps := ["_law_cell", "_law_k", "_law_n", "_law_to"]) fun _ _ _ _ _ _ us hl => match us,hl with | [_,_,_,_],_ => rfl
  have F11 := fun_mk (st := s11) l11 c11 k11
  have bd11 := F11.binds (ps := ["_law_sizes", "_law_f", "_law_cell"]) fun _ _ _ _ _ _ us hl => match us,hl with | [_,_,_],_ => rfl
  have F12 := fun_mk (st := s12) l12 c12 k12
  have bd12 := F12.binds (ps := ["_law_cells", "_law_way"]) fun _ _ _ _ _ _ us hl => match us,hl with | [_,_],_ => rfl
  have F13 := fun_mk (st := s13) l13 c13 k13
  have bd13 := F13.binds (ps := ["_law_table_here", "_law_cell", "_law_facts"]) fun _ _ _ _ _ _ us hl => match us,hl with | [_,_,_],_ => rfl
  have F14 := fun_mk (st := s14) l14 c14 k14
  have bd14 := F14.binds (ps := ["_law_chart_here", "_law_f", "_law_edge_here", "_law_cell"]) fun _ _ _ _ _ _ us hl => match us,hl with | [_,_,_,_],_ => rfl
  have F15 := fun_mk (st := s15) l15 c15 k15
  have bd15 := F15.binds (ps := ["_law_chart_here", "_law_cell", "_law_spoilt"]) fun _ _ _ _ _ _ us hl => match us,hl with | [_,_,_],_ => rfl
  have F16 := fun_mk (st := s16) l16 c16 k16
  have bd16 := F16.binds (ps := ["_law_chart_here"]) fun _ _ _ _ _ _ us hl => match us,hl with | [_],_ => rfl
  have F17 := fun_mk (st := s17) l17 c17 k17
  have bd17 := F17.binds (ps := ["_law_chart_here"]) fun _ _ _ _ _ _ us hl => match us,hl with | [_],_ => rfl
  have F18 := fun_mk (st := s18) l18 c18 k18
  have bd18 := F18.binds (ps := ["_law_chart_here", "_law_cell"]) fun _ _ _ _ _ _ us hl => match us,hl with | [_,_],_ => rfl
  have F19 := fun_mk (st := s19) l19 c19 k19
  have bd19 := F19.binds (ps := ["_law_script"]) fun _ _ _ _ _ _ us hl => match us,hl with | [_],_ => rfl
  have F1 := fun_mk (st := s1) l1 c1 k1
  have bd1 := F1.binds (ps := ["self", "function", "edge"]) fun _ _ _ _ _ _ us hl => match us,hl with | [_,_,_],_ => rfl
  have To4 : OexC K C4 := ⟨⟨_,_,_,_,_,_,_,_,_,_,_,_,_,_,_,xo4,xv4⟩,xa4,xs4,xt4,xk4⟩
  have IN1 := fun (base : Heap) => ini1 (P := l.prog) (w := w) (mg := mg) (base := base) F1 To4 xn_4_function xn_4_edge (PySem.W.mg_of X G' aC0) xrd0 xga0 xvV0
  let ca : Nat → Addr := fun i => match i with
    | 0 => C0
    | 1 => C1
    | 2 => C2
    | 3 => C3
    | 4 => C4
    | 5 => C5
    | 6 => C6
    | 7 => C7
    | _ => 0
  have lev : ∀ (base : Heap) (n : Nat),FnOk l.prog w K mg base CX0 (2 * n + 1) f5 (PySem.W.fnOf "is_table" "is_table" (defArgs s5) (defBody s5) (defScope s5) .none kV5 dc5 pm5 an5 cd5 ct5) ["table", "many", "facts"] (spR ca (run G n) 5 3) ∧ FnOk l.prog w K mg base CX0 (2 * n + 1) f6 (PySem.W.fnOf "is_edge" "is_edge" (defArgs s6) (defBody s6) (defScope s6) .none kV6 dc6 pm6 an6 cd6 ct6) ["chart", "f", "edge"] (spR ca (run G n) 6 3) ∧ FnOk l.prog w K mg base CX0 (2 * n + 1) f7 (PySem.W.fnOf "checked" "checked" (defArgs s7) (defBody s7) (defScope s7) .none kV7 dc7 pm7 an7 cd7 ct7) ["chart"] (spR ca (run G n) 7 1) ∧ FnOk l.prog w K mg base CX0 (2 * n + 1) f8 (PySem.W.fnOf "_law_cell_at" "_law_cell_at" (defArgs s8) (defBody s8) (defScope s8) .none kV8 dc8 pm8 an8 cd8 ct8) ["_law_script", "_law_k"] (spR ca (run G n) 8 2) ∧ FnOk l.prog w K mg base CX0 (2 * n + 1) f9 (PySem.W.fnOf "_law_pick" "_law_pick" (defArgs s9) (defBody s9) (defScope s9) .none kV9 dc9 pm9 an9 cd9 ct9) ["_law_cell", "_law_k", "_law_many"] (spR ca (run G n) 9 3) ∧ FnOk l.prog w K mg base CX0 (2 * n + 1) f10 (PySem.W.fnOf "_law_table" "_law_table" (defArgs s10) (defBody s10) (defScope s10) .none kV10 dc10 pm10 an10 cd10 ct10) ["_law_cell", "_law_k", "_law_n", "_law_to"] (spR ca (run G n) 10 4) ∧ FnOk l.prog w K mg base CX0 (2 * n + 1) f11 (PySem.W.fnOf "_law_edge" "_law_edge" (defArgs s11) (defBody s11) (defScope s11) .none kV11 dc11 pm11 an11 cd11 ct11) ["_law_sizes", "_law_f", "_law_cell"] (spR ca (run G n) 11 3) ∧ FnOk l.prog w K mg base CX0 (2 * n + 1) f12 (PySem.W.fnOf "_law_chart" "_law_chart" (defArgs s12) (defBody s12) (defScope s12) .none kV12 dc12 pm12 an12 cd12 ct12) ["_law_cells", "_law_way"] (spR ca (run G n) 12 2) ∧ FnOk l.prog w K mg base CX0 (2 * n + 1) f13 (PySem.W.fnOf "_law_spoilt_mask" "_law_spoilt_mask" (defArgs s13) (defBody s13) (defScope s13) .none kV13 dc13 pm13 an13 cd13 ct13) ["_law_table_here", "_law_cell", "_law_facts"] (spR ca (run G n) 13 3) ∧ FnOk l.prog w K mg base CX0 (2 * n + 1) f14 (PySem.W.fnOf "_law_spoilt_edge" "_law_spoilt_edge" (defArgs s14) (defBody s14) (defScope s14) .none kV14 dc14 pm14 an14 cd14 ct14) ["_law_chart_here", "_law_f", "_law_edge_here", "_law_cell"] (spR ca (run G n) 14 4) ∧ FnOk l.prog w K mg base CX0 (2 * n + 1) f15 (PySem.W.fnOf "_law_wrong" "_law_wrong" (defArgs s15) (defBody s15) (defScope s15) .none kV15 dc15 pm15 an15 cd15 ct15) ["_law_chart_here", "_law_cell", "_law_spoilt"] (spR ca (run G n) 15 3) ∧ FnOk l.prog w K mg base CX0 (2 * n + 1) f16 (PySem.W.fnOf "_law_refusal" "_law_refusal" (defArgs s16) (defBody s16) (defScope s16) .none kV16 dc16 pm16 an16 cd16 ct16) ["_law_chart_here"] (spR ca (run G n) 16 1) ∧ FnOk l.prog w K mg base CX0 (2 * n + 1) f17 (PySem.W.fnOf "_law_copied" "_law_copied" (defArgs s17) (defBody s17) (defScope s17) .none kV17 dc17 pm17 an17 cd17 ct17) ["_law_chart_here"] (spR ca (run G n) 17 1) ∧ FnOk l.prog w K mg base CX0 (2 * n + 1) f18 (PySem.W.fnOf "_law_too_many" "_law_too_many" (defArgs s18) (defBody s18) (defScope s18) .none kV18 dc18 pm18 an18 cd18 ct18) ["_law_chart_here", "_law_cell"] (spR ca (run G n) 18 2) ∧ FnOk l.prog w K mg base CX0 (2 * n + 1) fa (PySem.W.fnOf "law" "law" (defArgs s19) (defBody s19) (defScope s19) .none kV19 dc19 pm19 an19 cd19 ct19) ["_law_script"] (spR ca (run G n) 19 1) ∧ FnOk l.prog w K mg base (L2.CX l.prog w) (2 * n + 1) f7 (PySem.W.fnOf "checked" "checked" (defArgs s7) (defBody s7) (defScope s7) .none kV7 dc7 pm7 an7 cd7 ct7) ["chart"] (spX ca (run G n) 7 1) := by
      intro base n; induction n with
      | zero => exact ⟨def_0,def_0,def_0,def_0,def_0,def_0,def_0,def_0,def_0,def_0,def_0,def_0,def_0,def_0,def_0,def_0X⟩
      | succ n ih =>
        obtain ⟨I5,I6,I7,I8,I9,I10,I11,I12,I13,I14,I15,I16,I17,I18,I19,J7⟩ := ih
        have E : EnP l.prog w K mg base ca n := ⟨PySem.W.mg_none_of X G' z_ValueError,
          PySem.W.mg_none_of X G' z_enumerate,
          PySem.W.mg_none_of X G' z_int,
          PySem.W.mg_none_of X G' z_isinstance,
          PySem.W.mg_none_of X G' z_len,
          PySem.W.mg_none_of X G' z_list,
          PySem.W.mg_none_of X G' z_min,
          PySem.W.mg_none_of X G' z_range,
          PySem.W.mg_none_of X G' z_tuple,
          ⟨_,.int 1000000000000000000,PySem.W.mg_of X G' gk4,⟨_,rfl⟩,fun _ => .int _⟩,
          ⟨_,.int 24,PySem.W.mg_of X G' gk3,⟨_,rfl⟩,fun _ => .int _⟩,
          ⟨_,.int 6,PySem.W.mg_of X G' gk0,⟨_,rfl⟩,fun _ => .int _⟩,
          ⟨_,.int 6,PySem.W.mg_of X G' gk1,⟨_,rfl⟩,fun _ => .int _⟩,
          ⟨_,.int 10,PySem.W.mg_of X G' gk2,⟨_,rfl⟩,fun _ => .int _⟩,
          PySem.W.mg_of X G' aC0,
          PySem.W.mg_of X G' aC4,
          PySem.W.mg_of X G' aC3,
          PySem.W.mg_of X G' aC6,
          PySem.W.mg_of X G' aC1,
          PySem.W.mg_of X G' aC7,
          PySem.W.mg_of X G' aC5,
          PySem.W.mg_of X G' aC2,
          ⟨xg4_a,xg4_b,xs4,xg4_d,xg4_e,xx_n,xx_t,xg4_f⟩,
          kit_same,
          (kit_rf su_4_3 su_4_4 xg3_d xt3),
          (kit_rf su_4_6 su_4_4 xg6_d xt6),
          (kit_rf su_4_1 su_4_4 xg1_d xt1),
          (kit_rf su_4_7 su_4_4 xg7_d xt7),
          (kit_rf su_4_5 su_4_4 xg5_d xt5),
          (kit_rf su_4_2 su_4_4 xg2_d xt2),
          (kit_vt su_4_V),
          ⟨xg4_a,xg4_b,xs4,xg4_d⟩,
          xn_4_edge,
          xn_4_function,
          (PySem.W.exm_ref xs0 xg0_d xt0 su_4_0),
          ⟨⟨_,_,_,J7.mono (by omega),PySem.W.mg_of X G' a7,k7,bd7⟩,fun _ _ _ h => run_len G7 n _ _ _ h⟩,
          ⟨_,_,_,To4,a1,ti1,IN1 base,bd1,PySem.W.mg_of X G' aC4⟩,
          ⟨⟨_,_,_,[],[],I8.mono (by omega),PySem.W.mg_of X G' a8,k8,bd8,.nil,fun _ => .nil⟩,fun _ _ _ h => run_len G8 n _ _ _ h⟩,
          ⟨⟨_,_,_,[],[],I12.mono (by omega),PySem.W.mg_of X G' a12,k12,bd12,.nil,fun _ => .nil⟩,fun _ _ _ h => run_len G12 n _ _ _ h⟩,
          ⟨⟨_,_,_,[],[],I17.mono (by omega),PySem.W.mg_of X G' a17,k17,bd17,.nil,fun _ => .nil⟩,fun _ _ _ h => run_len G17 n _ _ _ h⟩,
          ⟨⟨_,_,_,[],[],I11.mono (by omega),PySem.W.mg_of X G' a11,k11,bd11,.nil,fun _ => .nil⟩,fun _ _ _ h => run_len G11 n _ _ _ h⟩,
          ⟨⟨_,_,_,[],[],I9.mono (by omega),PySem.W.mg_of X G' a9,k9,bd9,.nil,fun _ => .nil⟩,fun _ _ _ h => run_len G9 n _ _ _ h⟩,
          ⟨⟨_,_,_,[],[],I16.mono (by omega),PySem.W.mg_of X G' a16,k16,bd16,.nil,fun _ => .nil⟩,fun _ _ _ h => run_len G16 n _ _ _ h⟩,
          ⟨⟨_,_,_,[],[],I14.mono (by omega),PySem.W.mg_of X G' a14,k14,bd14,.nil,fun _ => .nil⟩,fun _ _ _ h => run_len G14 n _ _ _ h⟩,
          ⟨⟨_,_,_,[],[],I13.mono (by omega),PySem.W.mg_of X G' a13,k13,bd13,.nil,fun _ => .nil⟩,fun _ _ _ h => run_len G13 n _ _ _ h⟩,
          ⟨⟨_,_,_,[],[],I10.mono (by omega),PySem.W.mg_of X G' a10,k10,bd10,.nil,fun _ => .nil⟩,fun _ _ _ h => run_len G10 n _ _ _ h⟩,
          ⟨⟨_,_,_,[],[],I18.mono (by omega),PySem.W.mg_of X G' a18,k18,bd18,.nil,fun _ => .nil⟩,fun _ _ _ h => run_len G18 n _ _ _ h⟩,
          ⟨⟨_,_,_,[],[],I15.mono (by omega),PySem.W.mg_of X G' a15,k15,bd15,.nil,fun _ => .nil⟩,fun _ _ _ h => run_len G15 n _ _ _ h⟩,
          ⟨⟨_,_,_,[],[],I7.mono (by omega),PySem.W.mg_of X G' a7,k7,bd7,.nil,fun _ => .nil⟩,fun _ _ _ h => run_len G7 n _ _ _ h⟩,
          ⟨⟨_,_,_,[],[],I6.mono (by omega),PySem.W.mg_of X G' a6,k6,bd6,.nil,fun _ => .nil⟩,fun _ _ _ h => run_len G6 n _ _ _ h⟩,
          ⟨⟨_,_,_,[],[],I5.mono (by omega),PySem.W.mg_of X G' a5,k5,bd5,.nil,fun _ => .nil⟩,fun _ _ _ h => run_len G5 n _ _ _ h⟩⟩
        exact ⟨ok5 F5 E,ok6 F6 E,ok7 F7 E,ok8 F8 E,ok9 F9 E,ok10 F10 E,ok11 F11 E,ok12 F12 E,ok13 F13 E,ok14 F14 E,ok15 F15 E,ok16 F16 E,ok17 F17 E,ok18 F18 E,ok19 F19 E,okX7 F7 E⟩
  exact ⟨(PySem.W.fnOf "law" "law" (defArgs s19) (defBody s19) (defScope s19) .none kV19 dc19 pm19 an19 cd19 ct19),fun s v => .of_eq rfl,fun base _ _ => law_imp (lev base 40).2.2.2.2.2.2.2.2.2.2.2.2.2.2.1 nl hq⟩
theorem walk {l : PySem.W.OpenLaw} {q : Program} {loose : List Str} {XP : (Str → Option Value) → Heap → Prop} {YP : World → Heap → Prop} {d : DefRec} {K : Params → PySem.W.Frag} (hn : l.most = some 63) (hdf : d.params.defaults = [])
    (hY : ∀ (w : World) (h : Heap),YP w h → (K w.params).In h)
    (F : ∀ (w : World) (mg : Str → Option Value) (fa : Addr) (h : Heap),(K w.params).In h → h.Ns mainGlobals mg → mg d.name = some (.ref fa) →
      ∃ fd : FuncData,(∀ (s : Shared) (u : Value),BindsTo s fd ⟨[u],[]⟩ [("_law_script",u)]) ∧ ∀ base : Heap,(K w.params).In base → base.Ns mainGlobals mg → FnOk l.prog w (K w.params) mg base CX0 81 fa fd ["_law_script"] (fun vs H Q _ => ∃ (a : Addr) (ns : List Int),vs = [.ref a] ∧ SqL (K w.params) H a (ns.map V.int) ∧ ns.length ≤ 63 ∧ ∀ H',Q (.bl true) H')) :
    PySem.W.WalkO q loose XP YP l.row.toRowW d [] (fun f vs => PySem.call f vs) :=
  L2.walk_of (n := 63) (k := 81) (x := "_law_script") (CX := fun _ => CX0) (sp := fun w => fun vs H Q _ => ∃ (a : Addr) (ns : List Int),vs = [.ref a] ∧ SqL (K w.params) H a (ns.map V.int) ∧ ns.length ≤ 63 ∧ ∀ H',Q (.bl true) H') hn (by decide) hdf ⟨rfl,by decide,by decide⟩ hY F (fun _ _ a ns hl _ hS => ⟨a,ns,rfl,hS,hl,fun _ => rfl⟩) fun _ _ _ _ _ z => z
end Lk21
open PySem PySem.W PyProof.Rows in
set_option maxRecDepth 100000 in
set_option maxHeartbeats 0 in
theorem PySem.Challenge.cw_callmatch_k21_charts_looked_at_holds : PySem.Challenge.rw_callmatch_k21_charts_looked_at.Holds := by
  w_on; o_law; k_head; (case hw => w_witness2)
  k_fill
  refine Lk21.walk (l := PySem.Challenge.rw_callmatch_k21_charts_looked_at) rfl rfl (fun w h Y => PySem.W.kIn_of Y) ?F
  case F =>
    intro w mg fa h KX G hmg
    refine' Lk21.all_mk KX G hmg ?a5 ?l5 ?c5 ?k5 ?a6 ?l6 ?c6 ?k6 ?a7 ?l7 ?c7 ?k7 ?a8 ?l8 ?c8 ?k8 ?a9 ?l9 ?c9 ?k9 ?a10 ?l10 ?c10 ?k10 ?a11 ?l11 ?c11 ?k11 ?a12 ?l12 ?c12 ?k12 ?a13 ?l13 ?c13 ?k13 ?a14 ?l14 ?c14 ?k14 ?a15 ?l15 ?c15 ?k15 ?a16 ?l16 ?c16 ?k16 ?a17 ?l17 ?c17 ?k17 ?a18 ?l18 ?c18 ?k18 ?a19 ?l19 ?c19 ?k19 ?aC0 ?aC4 ?aC3 ?aC6 ?aC1 ?aC7 ?aC5 ?aC2 ?xx_n ?xx_t ?xg4_a ?xg4_b ?xg4_d ?xg4_e ?xg4_f ?xs4 ?xt4 ?xk4 ?xrd0 ?xga0 ?xvV0 ?xo4 ?xv4 ?xa4 ?a1 ?ti1 ?l1 ?c1 ?k1 ?su_4_0 ?xg0_d ?xt0 ?xs0 ?su_4_3 ?xg3_d ?xt3 ?su_4_4 ?su_4_6 ?xg6_d ?xt6 ?su_4_1 ?xg1_d ?xt1 ?su_4_7 ?xg7_d ?xt7 ?su_4_5 ?xg5_d ?xt5 ?su_4_2 ?xg2_d ?xt2 ?su_4_V ?xn_4_edge ?xn_4_function ?z_ValueError ?z_enumerate ?z_int ?z_isinstance ?z_len ?z_list ?z_min ?z_range ?z_tuple ?gk4 ?gk3 ?gk0 ?gk1 ?gk2 ?nl ?hq
    (case aC0 => k_is)
    (case aC4 => k_is)
    (case aC3 => k_is)
    (case aC6 => k_is)
    (case aC1 => k_is)
    (case aC7 => k_is)
    (case aC5 => k_is)
    (case aC2 => k_is)
    (case a5 => k_is)
    (case l5 => k_is)
    (case c5 => k_is)
    (case k5 => k_is)
    (case a6 => k_is)
    (case l6 => k_is)
    (case c6 => k_is)
    (case k6 => k_is)
    (case a7 => k_is)
    (case l7 => k_is)
    (case c7 => k_is)
    (case k7 => k_is)
    (case a8 => k_is)
    (case l8 => k_is)
    (case c8 => k_is)
    (case k8 => k_is)
    (case a9 => k_is)
    (case l9 => k_is)
    (case c9 => k_is)
    (case k9 => k_is)
    (case a10 => k_is)
    (case l10 => k_is)
    (case c10 => k_is)
    (case k10 => k_is)
    (case a11 => k_is)
    (case l11 => k_is)
    (case c11 => k_is)
    (case k11 => k_is)
    (case a12 => k_is)
    (case l12 => k_is)
    (case c12 => k_is)
    (case k12 => k_is)
    (case a13 => k_is)
    (case l13 => k_is)
    (case c13 => k_is)
    (case k13 => k_is)
    (case a14 => k_is)
    (case l14 => k_is)
    (case c14 => k_is)
    (case k14 => k_is)
    (case a15 => k_is)
    (case l15 => k_is)
    (case c15 => k_is)
    (case k15 => k_is)
    (case a16 => k_is)
    (case l16 => k_is)
    (case c16 => k_is)
    (case k16 => k_is)
    (case a17 => k_is)
    (case l17 => k_is)
    (case c17 => k_is)
    (case k17 => k_is)
    (case a18 => k_is)
    (case l18 => k_is)
    (case c18 => k_is)
    (case k18 => k_is)
    (case a19 => k_is)
    (case l19 => k_is)
    (case c19 => k_is)
    (case k19 => k_is)
    (case xx_n => k_is)
    (case xx_t => k_is)
    (case xg4_a => k_is)
    (case xg4_b => k_is)
    (case xg4_d => k_is)
    (case xg4_e => k_is)
    (case xg4_f => k_is)
    (case xs4 => k_is)
    (case xt4 => k_is)
    (case xk4 => k_is)
    (case xrd0 => k_is)
    (case xga0 => k_is)
    (case xvV0 => k_is)
    (case xo4 => k_is)
    (case xv4 => decide +kernel)
    (case xa4 => k_is)
    (case a1 => k_is)
    (case ti1 => k_is)
    (case l1 => k_is)
    (case c1 => k_is)
    (case k1 => k_is)
    (case su_4_0 => k_is)
    (case xg0_d => k_is)
    (case xt0 => k_is)
    (case xs0 => k_is)
    (case su_4_3 => k_is)
    (case xg3_d => k_is)
    (case xt3 => k_is)
    (case su_4_4 => k_is)
    (case su_4_6 => k_is)
    (case xg6_d => k_is)
    (case xt6 => k_is)
    (case su_4_1 => k_is)
    (case xg1_d => k_is)
    (case xt1 => k_is)
    (case su_4_7 => k_is)
    (case xg7_d => k_is)
    (case xt7 => k_is)
    (case su_4_5 => k_is)
    (case xg5_d => k_is)
    (case xt5 => k_is)
    (case su_4_2 => k_is)
    (case xg2_d => k_is)
    (case xt2 => k_is)
    (case su_4_V => k_is)
    (case xn_4_edge => k_is)
    (case xn_4_function => k_is)
    (case z_ValueError => k_is)
    (case z_enumerate => k_is)
    (case z_int => k_is)
    (case z_isinstance => k_is)
    (case z_len => k_is)
    (case z_list => k_is)
    (case z_min => k_is)
    (case z_range => k_is)
    (case z_tuple => k_is)
    (case gk4 => k_is)
    (case gk3 => k_is)
    (case gk0 => k_is)
    (case gk1 => k_is)
    (case gk2 => k_is)
    (case nl => exact Y.nol_of (by kernel_rfl))
    (case hq => exact Lk21.main)
#print axioms PySem.Challenge.cw_callmatch_k21_charts_looked_at_holds
